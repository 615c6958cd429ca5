import PyProof.Rows.All
import Wide.All
import OpenK.AllK
import Wide.FinOn
import HandS.ForExc
import HandS.Comp
import HandS.Walk
import HandS.Zip
import HandS.Wide
import HandS.Deep
import HandS.IsInst
import HandS.TupMul
import HandS.ExcCtx
import HandS.HotCalls
import HandS.ExcIs
import HandS.HeadHook4
import HandS.HeadWalk
import HandS.Style
import HandS.SortKw
import HandS.More
import HandS.Flow
import HandS.TupSets
import HandS.Text
import HandS.Iter
import HandS.Replace
import PyProof.ReprRoads
import KE.DatumOrd
import KE.KeyNested
import HandS.ExcInit
import HandS.ExcField
import HandS.Head0
import HandS.Head1
import HandS.Head2
import PySem.Challenge.RW_closewright_k91_desk_refused
set_option Elab.async false
set_option linter.all false
set_option maxRecDepth 100000
set_option maxHeartbeats 4000000
/-! A small tongue of pure terms over data, and its own reckoning; the machine's rules are tied to it once, in the parts that follow. -/
namespace Cw
open PySem

abbrev D := PyData

inductive R (A : Type) where
  | ok (a : A)
  | exc (c : Str)
  | bad

def R.bind {A B : Type} : R A → (A → R B) → R B
  | .ok a, f => f a
  | .exc c, _ => .exc c
  | .bad, _ => .bad

inductive Op where
  | add | sub | mul | fdiv | mod | pow | shl
  deriving DecidableEq
inductive Cm where
  | eq | ne | lt | le | gt | ge | is | isn | isin | nin
  deriving DecidableEq
inductive Bf where
  | len | abs | max | min | int | sum | all | any | tuple | list
  deriving DecidableEq
inductive Ty where
  | int | bool | tuple | list | str
  deriving DecidableEq
/-- operations on texts -/
inductive Tx where
  | str | join | split | part | isdig | idx
  deriving DecidableEq
inductive Tg where
  | one (i : Nat)
  | many (l : List Nat)

mutual
inductive E where
  | k (d : D)
  | v (i : Nat)
  | g (j : Nat)
  | tup (es : Es)
  | lst (es : Es)
  | bin (o : Op) (a b : E)
  | neg (a : E)
  | not (a : E)
  | and (es : Es)
  | or (es : Es)
  | cmp (o : Cm) (a b : E)
  | cmp2 (o p : Cm) (a b c : E)
  | ife (c a b : E)
  | ix (a i : E)
  | sl (a : E) (lo hi : Eo)
  | call (f : Nat) (es : Es)
  | bf (f : Bf) (es : Es)
  | isi (a : E) (t : Ty)
  | lc (own : List Nat) (elt : E) (tg : Tg) (it : It) (c : Eo)
  | rev (a : E)
  | mx0 (a : E)
  | ins (a : E) (j : Nat)
  | lens (a : E)
  | lcx (own : List Nat) (elt : E) (tg : Tg) (it : It)
  | orv (a b : E)
  | cnt (i : Nat) (b : E)
  | att (i k j : Nat)
  | cln (f : Nat) (a : E)
  | tx1 (o : Tx) (a : E)
  | tx2 (o : Tx) (a b : E)
  | ind (a : E) (j : Nat)
  | dg (j : Nat) (a : E)
  | dlit (ks : List Str) (es : Es) (a : E)
  | din (i k j : Nat) (a : E)
  | dat (i k j : Nat) (a : E)
inductive Es where
  | nil
  | cons (e : E) (es : Es)
inductive Eo where
  | no
  | yes (e : E)
inductive It where
  | seq (e : E)
  | rng1 (e : E)
  | rng2 (a b : E)
  | rng3 (a b c : E)
  | enum (e : E)
  | zip (a b : E)
end

/-- a slot: nothing, a datum that stays, a list of one's own, an object of one's own (or lent: b), of class k, by its fields -/
inductive Sl where
  | no
  | fr (d : D)
  | ow (ds : List D)
  | ob (b : Bool) (k : Nat) (fs : List D)
  | ln (ds : List D)
/-- the program's classes, by number: the name, the fields in the order in which they are first set -/
def clsN : Nat → Str
  | 0 => "Hunt"
  | 1 => "Look"
  | 2 => "Reader"
  | 3 => "Words"
  | 4 => "Desk"
  | _ => ""
def clsF : Nat → List Str
  | 0 => ["term", "point", "best", "high", "is_open"]
  | 1 => ["box", "middle", "worths", "rows", "far", "is_told"]
  | 2 => ["text", "at", "deep"]
  | 3 => ["row", "gone", "sides"]
  | 4 => ["terms", "boxes"]
  | _ => []
/-- a class whose fields are dicts, and whose exceptions keep the object -/
def isDk (k : Nat) : Bool := decide (k = 4)

/-! what may change an object: calls of its methods -/
mutual
inductive M where
  | e (e : E)
  | mc (i k f : Nat) (ms : Ms)
  | mk (k f : Nat) (as : Es) (h : Nat) (bs : Es)
  | tup (ms : Ms)
  | not (m : M)
  | and (a b : M)
  | cl (i f : Nat) (a : E)
  | cmp (o : Cm) (m : M) (e : E)
  | ind (m : M) (j : Nat)
  | call (f : Nat) (ms : Ms)
  | bf (f : Bf) (ms : Ms)
  | lcm (i : Nat) (m : M) (it : It)
  | mx (i k f : Nat) (ms : Ms)
  | or (a b : M)
inductive Ms where
  | nil
  | cons (m : M) (ms : Ms)
end

mutual
inductive S where
  | asg (i : Nat) (ms : List Nat) (e : E)
  | asgL (i : Nat) (ms : List Nat) (e : E)
  | asgT (l : List Nat) (ms : List Nat) (e : E)
  | par (i j : Nat) (ms : List Nat) (a b : E)
  | parL (i j : Nat) (ms : List Nat) (a b : E)
  | ret (ms : List Nat) (e : E)
  | iff (ms : List Nat) (c : E) (a b : Ss)
  | whl (ms : List Nat) (c : E) (b : Ss)
  | for_ (ms : List Nat) (tg : Tg) (it : It) (b : Ss)
  | app (i : Nat) (ms : List Nat) (e : E)
  | ext (i : Nat) (ms : List Nat) (e : E)
  | popT (l : List Nat) (i : Nat)
  | setC (i : Nat) (a b : Nat)
  | setX (i : Nat) (ms : List Nat) (a e : E)
  | asgU (l : List Nat) (ms : List Nat) (e : E)
  | rais (c : Str)
  | tryN (b : Ss) (c : Str) (i : Nat) (d : D)
  | tryW (b : Ss) (i k : Nat)
  | tryA (b : Ss) (i k j : Nat)
  | expr (ms : List Nat) (e : E)
  | self (k : Nat)
  | selfI (k : Nat)
  | asgM (i : Nat) (m : M)
  | retM (m : M)
  | retP (m : M)
  | iffM (m : M) (a b : Ss)
  | whlM (m : M) (b : Ss)
  | exprM (m : M)
  | fld (i k j : Nat) (m : M)
  | new (i k f : Nat) (ms : Ms)
  | selfL (i : Nat)
  | appL (i : Nat) (e : E)
  | retL (i : Nat) (e : E)
  | retLM (i : Nat) (m : M)
  | tryR (b : Ss) (c : Str) (d : D)
  | tryT (b : Ss) (i k : Nat) (o w : Str)
  | dct3 (i : Nat) (ks : List Str) (es : Es) (ks2 : List Str) (es2 : Es) (a : E)
  | fldE (i k j : Nat)
  | fldD (i k j : Nat) (a : E) (m : M)
  | asgMT (l : List Nat) (m : M)
  | raisW (i : Nat)
  | tryD (b : Ss) (pre : Str) (hs : List (Str × Str)) (i : Nat)
  | keep (ini : Bool) (k : Nat) (b : Ss)
  | brk
  | cont
  | pass
inductive Ss where
  | nil
  | cons (s : S) (ss : Ss)
end

/-! ### values -/
def MulOk (a b : Int) : Prop := PySem.IntMulOk a b
instance (a b : Int) : Decidable (MulOk a b) := by unfold MulOk PySem.IntMulOk; exact inferInstance

/-- whether a text may be taken so often -/
def mulSB (x : Str) (n : Int) : Bool := decide (0 ≤ n) && decide (n ≤ 1000000) && decide (x.length ≤ 1000) && decide (x.length * n.toNat ≤ 1000000)
def opR : Op → D → D → R D
  | .add, .int a, .int b => .ok (.int (a + b))
  | .add, .str a, .str b => if a.length + b.length ≤ sizeLine then .ok (.str (a ++ b)) else .bad
  | .add, .list a, .list b => if a.length + b.length ≤ sizeLine then .ok (.list (a ++ b)) else .bad
  | .add, .tuple a, .tuple b => if a.length + b.length ≤ sizeLine then .ok (.tuple (a ++ b)) else .bad
  | .sub, .int a, .int b => .ok (.int (a - b))
  | .mul, .int a, .int b => if MulOk a b then .ok (.int (a * b)) else .bad
  | .mul, .tuple a, .int k => if a ≠ [] ∧ 2 ≤ k ∧ k ≤ 1000 ∧ a.length ≤ 1000 then .ok (.tuple (List.replicate k.toNat a).flatten) else .bad
  | .mul, .str z, .int k => if mulSB z k = true then .ok (.str (Txt.mul z k)) else .bad
  | .mul, .list a, .int k => if 0 ≤ k ∧ k ≤ 1000 ∧ a.length ≤ 1000 then .ok (.list (List.replicate k.toNat a).flatten) else .bad
  | .fdiv, .int a, .int b => if b = 0 then .bad else .ok (.int (a.fdiv b))
  | .mod, .int a, .int b => if b = 0 then .bad else .ok (.int (a.fmod b))
  | .pow, .int a, .int b => if 0 ≤ b ∧ b ≤ 1000000 ∧ a.natAbs < 2 ^ 64 then .ok (.int (a ^ b.toNat)) else .bad
  | .shl, .int a, .int b => if 0 ≤ b ∧ b ≤ 1000000 ∧ a.natAbs < 2 ^ 64 then .ok (.int (a * 2 ^ b.toNat)) else .bad
  | _, _, _ => .bad

def flatD : D → Bool
  | .none => true
  | .bool _ => true
  | .int _ => true
  | .str _ => true
  | _ => false

def cmR : Cm → D → D → R D
  | .eq, a, b => if SeqAt.shaped a = true ∧ SeqAt.shaped b = true then .ok (.bool (PyData.eqv a b)) else .bad
  | .ne, a, b => if SeqAt.shaped a = true ∧ SeqAt.shaped b = true then .ok (.bool (!PyData.eqv a b)) else .bad
  | .lt, .int a, .int b => .ok (.bool (decide (a < b)))
  | .le, .int a, .int b => .ok (.bool (decide (a ≤ b)))
  | .gt, .int a, .int b => .ok (.bool (decide (b < a)))
  | .ge, .int a, .int b => .ok (.bool (decide (b ≤ a)))
  | .is, .bool a, .bool b => .ok (.bool (decide (a = b)))
  | .isn, .bool a, .bool b => .ok (.bool (!decide (a = b)))
  | .is, a, .none => .ok (.bool (match a with | .none => true | _ => false))
  | .isn, a, .none => .ok (.bool (!match a with | .none => true | _ => false))
  | .isin, a, .list l => if SeqAt.shaped a = true ∧ SeqAt.shaped (.list l) = true then .ok (.bool (l.any fun z => PyData.eqv z a)) else .bad
  | .nin, a, .list l => if SeqAt.shaped a = true ∧ SeqAt.shaped (.list l) = true then .ok (.bool (!l.any fun z => PyData.eqv z a)) else .bad
  | .isin, .str x, .str z => (match x.cps.toList with
    | [c] => .ok (.bool (decide (c ∈ z.cps.toList)))
    | _ => .bad)
  | .nin, .str x, .str z => (match x.cps.toList with
    | [c] => .ok (.bool (!decide (c ∈ z.cps.toList)))
    | _ => .bad)
  | .isin, a, .tuple l => if flatD a = true ∧ l.all flatD = true then .ok (.bool (l.any fun z => PyData.eqv z a)) else .bad
  | .nin, a, .tuple l => if flatD a = true ∧ l.all flatD = true then .ok (.bool (!l.any fun z => PyData.eqv z a)) else .bad
  | _, _, _ => .bad

def ofO {A : Type} : Option A → R A
  | some a => .ok a
  | none => .bad

def ixR : D → D → R D
  | .list l, .int i => ofO (L2.atI l i)
  | .tuple l, .int i => ofO (L2.atI l i)
  | .str z, .int i => if z.length ≤ sizeLine then (ofO (L2.atI z.cps.toList i)).bind fun c => .ok (.str ⟨#[c]⟩) else .bad
  | _, _ => .bad

def cutD {A : Type} (xs : List A) (lo hi : Option Int) : List A := (xs.drop (HT.sIx xs.length 0 lo)).take (HT.sIx xs.length xs.length hi - HT.sIx xs.length 0 lo)

def slR : D → Option Int → Option Int → R D
  | .list l, lo, hi => .ok (.list (cutD l lo hi))
  | .tuple l, lo, hi => if HT.sIx l.length 0 lo = 0 ∧ HT.sIx l.length l.length hi = l.length then .bad else .ok (.tuple (cutD l lo hi))
  | .str z, lo, hi => if z.length ≤ sizeLine then .ok (.str (L2.cutS z lo hi)) else .bad
  | _, _, _ => .bad

def intsOf : List D → Option (List Int)
  | [] => some []
  | .int i :: r => (intsOf r).map fun l => i :: l
  | _ :: _ => none
def blsOf : List D → Option (List Bool)
  | [] => some []
  | .bool i :: r => (blsOf r).map fun l => i :: l
  | _ :: _ => none

def mxL : List Int → Int
  | [] => 0
  | x :: xs => xs.foldl (fun a y => if a < y then y else a) x
def bfR : Bf → List D → R D
  | .len, [.list l] => .ok (.int l.length)
  | .len, [.tuple l] => .ok (.int l.length)
  | .len, [.str z] => if z.length ≤ sizeLine then .ok (.int z.length) else .bad
  | .abs, [.int i] => .ok (.int (if i < 0 then -i else i))
  | .max, [.int i, .int j] => .ok (.int (if j > i then j else i))
  | .max, [.list l] => (ofO (intsOf l)).bind fun ns => if ns = [] then .bad else .ok (.int (mxL ns))
  | .min, [.int i, .int j] => .ok (.int (if j < i then j else i))
  | .int, [.int i] => .ok (.int i)
  | .int, [.bool b] => .ok (.int (if b then 1 else 0))
  | .int, [.str z] => if z.length ≤ 640 then (ofO (PySem.intText? z)).bind fun n => .ok (.int n) else .bad
  | .sum, [.list l] => (ofO (intsOf l)).bind fun ns => .ok (.int ns.sum)
  | .all, [.list l] => (ofO (blsOf l)).bind fun bs => .ok (.bool (bs.all id))
  | .any, [.list l] => (ofO (blsOf l)).bind fun bs => .ok (.bool (bs.any id))
  | .tuple, [.list l] => .ok (.tuple l)
  | .tuple, [.tuple l] => .ok (.tuple l)
  | .list, [.list l] => .ok (.list l)
  | .list, [.tuple l] => .ok (.list l)
  | _, _ => .bad

def revR : D → R D
  | .list l => .ok (.list l.reverse)
  | _ => .bad
def mx0R : D → R D
  | .list l => (ofO (intsOf l)).bind fun ns => .ok (.int (mxL ns))
  | _ => .bad
/-- whether something counts as true -/
def truD : D → Option Bool
  | .none => some false
  | .tuple l => some (!l.isEmpty)
  | .list l => some (!l.isEmpty)
  | _ => none
def cntR (l : List D) (d : D) : R D := if SeqAt.shaped d = true ∧ SeqAt.shaped (.list l) = true then .ok (.int (l.countP fun z => PyData.eqv z d : Nat)) else .bad
def lstR : D → R (List D)
  | .list l => .ok l
  | _ => .bad
def tupsOf : List D → Option (List (List Int))
  | [] => some []
  | .tuple x :: r => (intsOf x).bind fun k => (tupsOf r).map fun l => k :: l
  | _ :: _ => none
/-- how many unlike ones there are -/
def dedN : List (List Int) → Nat
  | [] => 0
  | x :: xs => if x ∈ xs then dedN xs else dedN xs + 1
/-- one tuple of tuples of ints -/
def oneP : List D → Bool
  | [.tuple l] => (tupsOf l).isSome
  | _ => false
def lensR : D → R D
  | .list l => (match tupsOf l with
    | some ks => if ks.length < 64 then .ok (.int (dedN ks)) else .bad
    | none => if oneP l = true then .ok (.int 1) else .bad)
  | _ => .bad
/-- of a dict of the module, by number: words that are asked for, and whether they are keys -/
def dctT : Nat → List (Str × Bool)
  | 0 => [("sum", true), ("less", true), ("times", true), ("over", true), ("num", false), ("var", false), ("power", false)]
  | _ => []
/-- of a dict of the module that holds texts by texts: what it holds -/
def dctV : Nat → List (Str × Str)
  | 0 => [("sum", "+"), ("less", "-"), ("times", "*"), ("over", ":")]
  | 1 => [("+", "sum"), ("-", "less")]
  | 2 => [("*", "times"), (":", "over")]
  | _ => []
def indR (j : Nat) : D → R D
  | .str z => .ok (.bool ((dctV j).lookup z).isSome)
  | _ => .bad
def dgR (j : Nat) : D → R D
  | .str z => (ofO ((dctV j).lookup z)).bind fun s => .ok (.str s)
  | _ => .bad
/-- of a dict that is written: what it holds -/
def lkR (ks : List Str) (ds : List D) : D → R D
  | .str z => ofO ((ks.zip ds).lookup z)
  | _ => .bad
def strsOf : List D → Option (List Str)
  | [] => some []
  | .str i :: r => (strsOf r).map fun l => i :: l
  | _ :: _ => none

mutual
def shwB : D → Bool
  | .int i => decide (i.natAbs.log2 < 12900)
  | .list l => shwA l
  | .tuple l => shwA l
  | .str _ => true
  | .bool _ => true
  | .none => true
  | _ => false
def shwA : List D → Bool
  | [] => true
  | d :: l => shwB d && shwA l
end
/-- operations on texts -/
def tx1R : Tx → D → R D
  | .str, .int i => if i.natAbs.log2 < 1920 then .ok (.str (toString i)) else .bad
  | .isdig, .str z => .ok (.bool (Txt.isdigit z))
  | _, _ => .bad
def onStr : D → R Str
  | .str z => .ok z
  | _ => .bad
def tx2R : Tx → Str → D → R D
  | .join, z, .list l => (ofO (strsOf l)).bind fun ys => if (ys.map (·.length)).sum + ys.length * z.length ≤ 16777216 then .ok (.str (Txt.join z ys)) else .bad
  | .split, a, .str b => if (b.length == 0) = false ∧ a.length + 2 ≤ sizeLine then .ok (.list ((Txt.split a b).map .str)) else .bad
  | .part, a, .str b => if (b.length == 0) = false ∧ a.length ≤ sizeLine then .ok (.tuple [.str (Txt.partition a b).1, .str (Txt.partition a b).2.1, .str (Txt.partition a b).2.2]) else .bad
  | .idx, a, .str b => (match Builtin.Str.occurrences a b 0 a.length 1 with
    | i :: _ => .ok (.int (i : Nat))
    | [] => .bad)
  | _, _, _ => .bad
/-- of a dict of data -/
def isK (z : Str) (p : D × D) : Bool := match p.1 with
  | .str y => decide (y = z)
  | _ => false
def lkD (ps : List (D × D)) (z : Str) : Option D := (ps.find? (isK z)).map (·.2)
def putD (ps : List (D × D)) (z : Str) (d : D) : List (D × D) := if ps.any (isK z) = true then ps.map (fun p => if isK z p = true then (p.1, d) else p) else ps ++ [(.str z, d)]
def dinR : D → D → R D
  | .dict ps, .str z => .ok (.bool (lkD ps z).isSome)
  | _, _ => .bad
def datR : D → D → R D
  | .dict ps, .str z => ofO (lkD ps z)
  | _, _ => .bad
def insR (j : Nat) : D → R D
  | .str z => (ofO ((dctT j).lookup z)).bind fun b => .ok (.bool b)
  | _ => .bad

def isiR : Ty → D → R D
  | _, .dict _ => .bad
  | .int, .int _ => .ok (.bool true)
  | .int, .bool _ => .ok (.bool true)
  | .bool, .bool _ => .ok (.bool true)
  | .tuple, .tuple _ => .ok (.bool true)
  | .list, .list _ => .ok (.bool true)
  | .str, .str _ => .ok (.bool true)
  | _, _ => .ok (.bool false)

def getV (env : List Sl) (i : Nat) : R D := match env[i]? with
  | some (.fr d) => .ok d
  | _ => .bad

/-- field j of the object in slot i -/
def attR (env : List Sl) (i k j : Nat) : R D := match env[i]? with
  | some (.ob _ k' fs) => if k' = k then ofO fs[j]? else .bad
  | _ => .bad

/-- field j, a dict, of the object in slot i -/
def attK (env : List Sl) (i k j : Nat) : R D := match env[i]? with
  | some (.ob _ k' fs) => if k' = k ∧ isDk k = true then ofO fs[j]? else .bad
  | _ => .bad
def wipeE (env : List Sl) : List Nat → List Sl
  | [] => env
  | v :: vs => (wipeE env vs).set v .no

def setMany (env : List Sl) : List Nat → List D → R (List Sl)
  | [], [] => .ok env
  | i :: l, d :: ds => setMany (env.set i (.fr d)) l ds
  | _, _ => .bad

def setT (env : List Sl) : Tg → D → R (List Sl)
  | .one i, d => .ok (env.set i (.fr d))
  | .many l, .tuple ds => setMany env l ds
  | .many _, _ => .bad

def lcGo (f : D → R (Option D)) : List D → R (List D)
  | [] => .ok []
  | d :: ds => match f d with
    | .ok o => (match lcGo f ds with
      | .ok r => .ok (match o with | some x => x :: r | none => r)
      | _ => .bad)
    | _ => .bad

def lcGoX (f : D → R D) : List D → R (List D)
  | [] => .ok []
  | d :: ds => (f d).bind fun x => (lcGoX f ds).bind fun r => .ok (x :: r)

def rngL (a : Int) (n : Nat) : List D := (List.range n).map fun (k : Nat) => .int (a + (k : Int))

def enumL : Nat → List D → List D
  | _, [] => []
  | k, d :: ds => .tuple [.int k, d] :: enumL (k + 1) ds

def zipL : List D → List D → List D
  | a :: as, b :: bs => .tuple [a, b] :: zipL as bs
  | _, _ => []

def seqR : D → R (List D)
  | .list l => .ok l
  | .tuple l => .ok l
  | .str z => if z.length ≤ sizeLine then .ok (z.cps.toList.map fun c => .str ⟨#[c]⟩) else .bad
  | _ => .bad

def rngR (a b : Int) : R (List D) :=
  if -(2 ^ 62) ≤ a ∧ a < 2 ^ 62 ∧ -(2 ^ 62) ≤ b ∧ b < 2 ^ 62 ∧ b - a ≤ 1000000 then .ok (rngL a (b - a).toNat) else .bad

def rngC (i j c : Int) : R (List D) :=
  if c ≠ 0 ∧ c.natAbs < 1073741824 ∧ Builtin.Range.small i j c = true ∧ Builtin.Range.rangeSize i j c = ((Builtin.Range.rangeSize i j c).toNat : Int) ∧ (Builtin.Range.rangeSize i j c).toNat ≤ 1000000
  then .ok ((List.range (Builtin.Range.rangeSize i j c).toNat).map fun (k : Nat) => .int (i + (k : Int) * c)) else .bad
def zipR : D → D → R (List D)
  | .list a, .list b => if a.length ≤ sizeLine then .ok (zipL a b) else .bad
  | .tuple a, .tuple b => if a.length ≤ sizeLine then .ok (zipL a b) else .bad
  | _, _ => .bad
def enumR : D → R (List D)
  | .list a => if a.length ≤ sizeLine then .ok (enumL 0 a) else .bad
  | .tuple a => if a.length ≤ sizeLine then .ok (enumL 0 a) else .bad
  | _ => .bad

/-- the module's constants, by number -/
def cst : Nat → D
  | 0 => .tuple [.int 0, .int 1]
  | 1 => .tuple [.int 1, .int 1]
  | 2 => .tuple [.int 2, .int 1]
  | 3 => .tuple [.str "num", .tuple [.int 0, .int 1]]
  | 4 => .tuple [.str "num", .tuple [.int 1, .int 1]]
  | 5 => .tuple [.str "var", .int 0]
  | 6 => .int 24
  | 7 => .int 200
  | 8 => .int 25
  | 9 => .int 1000000000000
  | 10 => .int 6
  | 11 => .int 3
  | 12 => .int 60
  | 13 => .str "xyz"
  | 14 => .str "0123456789"
  | 15 => .int 12
  | 16 => .int 2000
  | 17 => .int 30
  | 18 => .tuple [.str "cover", .str "out", .str "kept", .str "open"]
  | 19 => .str "abcdefghijklmnopqrstuvwxyz"
  | 20 => .tuple [.str "above", .str "below", .str "apart"]
  | 21 => .int 8
  | _ => .none

/-- what a def with a lent list tells: its answer, the list behind it -/
def metL : R D → R (D × List D)
  | .ok (.tuple [d, .list es]) => .ok (d, es)
  | _ => .bad
section
variable (F : Nat → List D → R D)
mutual
def ev (env : List Sl) : E → R D
  | .k d => .ok d
  | .v i => getV env i
  | .g j => .ok (cst j)
  | .tup es => (evs env es).bind fun ds => .ok (.tuple ds)
  | .lst es => (evs env es).bind fun ds => .ok (.list ds)
  | .bin o a b => (ev env a).bind fun x => (ev env b).bind fun y => opR o x y
  | .neg a => (ev env a).bind fun x => match x with
    | .int i => .ok (.int (-i))
    | _ => .bad
  | .not a => (ev env a).bind fun x => match x with
    | .bool b => .ok (.bool (!b))
    | _ => .bad
  | .and es => evAnd env es
  | .or es => evOr env es
  | .cmp o a b => (ev env a).bind fun x => (ev env b).bind fun y => cmR o x y
  | .cmp2 o p a b c => (ev env a).bind fun x => (ev env b).bind fun y => (cmR o x y).bind fun z => match z with
    | .bool true => (ev env c).bind fun w => cmR p y w
    | .bool false => .ok (.bool false)
    | _ => .bad
  | .ife c a b => (ev env c).bind fun x => match x with
    | .bool true => ev env a
    | .bool false => ev env b
    | _ => .bad
  | .ix a i => (ev env a).bind fun x => (ev env i).bind fun y => ixR x y
  | .sl a lo hi => (ev env a).bind fun x => (evO env lo).bind fun l => (evO env hi).bind fun u => slR x l u
  | .call f es => (evs env es).bind fun ds => F f ds
  | .bf f es => (evs env es).bind fun ds => bfR f ds
  | .isi a t => (ev env a).bind fun x => isiR t x
  | .rev a => (ev env a).bind revR
  | .mx0 a => (ev env a).bind mx0R
  | .ins a j => (ev env a).bind (insR j)
  | .lens a => (ev env a).bind lensR
  | .orv a b => (ev env a).bind fun x => match truD x with
    | some true => .ok x
    | some false => ev env b
    | none => .bad
  | .att i k j => attR env i k j
  | .tx1 o a => (ev env a).bind (tx1R o)
  | .tx2 o a b => (ev env a).bind fun x => (onStr x).bind fun z => (ev env b).bind (tx2R o z)
  | .ind a j => (ev env a).bind (indR j)
  | .dg j a => (ev env a).bind (dgR j)
  | .din i k j a => (ev env a).bind fun z => (attK env i k j).bind fun d => dinR d z
  | .dat i k j a => (attK env i k j).bind fun d => (ev env a).bind fun z => datR d z
  | .dlit ks es a => (evs env es).bind fun ds => (ev env a).bind (lkR ks ds)
  | .cln f a => (ev env a).bind fun d => (metL (F f [d, .list []])).bind fun r => .ok r.1
  | .cnt i b => (getV env i).bind fun x => (lstR x).bind fun l => (ev env b).bind fun y => cntR l y
  | .lcx own elt tg it => (evI env it).bind fun ds => (lcGoX (fun d => (setT (wipeE env own) tg d).bind fun e2 => ev e2 elt) ds).bind fun l => .ok (.list l)
  | .lc own elt tg it c => (evI env it).bind fun ds => (lcGo (fun d => (setT (wipeE env own) tg d).bind fun e2 => (evC e2 c).bind fun b => if b = true then (ev e2 elt).bind fun x => .ok (some x) else .ok none) ds).bind fun l => .ok (.list l)
def evs (env : List Sl) : Es → R (List D)
  | .nil => .ok []
  | .cons e es => (ev env e).bind fun x => (evs env es).bind fun xs => .ok (x :: xs)
def evAnd (env : List Sl) : Es → R D
  | .nil => .bad
  | .cons e .nil => ev env e
  | .cons e (.cons e2 es) => (ev env e).bind fun x => match x with
    | .bool true => evAnd env (.cons e2 es)
    | .bool false => .ok (.bool false)
    | _ => .bad
def evOr (env : List Sl) : Es → R D
  | .nil => .bad
  | .cons e .nil => ev env e
  | .cons e (.cons e2 es) => (ev env e).bind fun x => match x with
    | .bool true => .ok (.bool true)
    | .bool false => evOr env (.cons e2 es)
    | _ => .bad
def evO (env : List Sl) : Eo → R (Option Int)
  | .no => .ok none
  | .yes e => (ev env e).bind fun x => match x with
    | .int i => .ok (some i)
    | _ => .bad
def evC (env : List Sl) : Eo → R Bool
  | .no => .ok true
  | .yes e => (ev env e).bind fun x => match x with
    | .bool b => .ok b
    | _ => .bad
def evI (env : List Sl) : It → R (List D)
  | .seq e => (ev env e).bind seqR
  | .rng1 e => (ev env e).bind fun x => match x with
    | .int j => rngR 0 j
    | _ => .bad
  | .rng2 a b => (ev env a).bind fun x => (ev env b).bind fun y => match x, y with
    | .int i, .int j => rngR i j
    | _, _ => .bad
  | .rng3 a b c => (ev env a).bind fun x => (ev env b).bind fun y => (ev env c).bind fun z => match x, y, z with
    | .int i, .int j, .int k => rngC i j k
    | _, _, _ => .bad
  | .enum e => (ev env e).bind enumR
  | .zip a b => (ev env a).bind fun x => (ev env b).bind fun y => zipR x y
end

/-! what may change an object -/
inductive RM (A : Type) where
  | ok (a : A) (e : List Sl)
  | exc (c : Str) (e : List Sl)
  | bad
def RM.bind {A B : Type} : RM A → (A → List Sl → RM B) → RM B
  | .ok a e, f => f a e
  | .exc c e, _ => .exc c e
  | .bad, _ => .bad
def liftM {A : Type} (env : List Sl) : R A → RM A
  | .ok a => .ok a env
  | .exc c => .exc c env
  | .bad => .bad
/-- what a method tells: its answer, the object behind it -/
def metO : R D → R (D × List D)
  | .ok (.tuple [d, .tuple fs]) => .ok (d, fs)
  | .exc c => .exc c
  | _ => .bad
/-- what a method of a class that keeps tells: its answer or exception, the object behind it -/
inductive XR where
  | ok (d : D) (fs : List D)
  | exc (c : Str) (fs : List D)
  | bad
def metX : R D → XR
  | .ok (.tuple [d, .tuple fs]) => .ok d fs
  | .ok (.tuple [.str c, .tuple fs, .none]) => .exc c fs
  | _ => .bad
def hasO (env : List Sl) (i k : Nat) : Bool := match env[i]? with
  | some (.ob _ k' _) => decide (k' = k)
  | _ => false
def callM (env : List Sl) (i k f : Nat) (ds : List D) : RM D := match env[i]? with
  | some (.ob b k' fs) => if k' = k then (match metO (F f (.tuple fs :: ds)) with
    | .ok r => .ok r.1 (env.set i (.ob b k r.2))
    | .exc c => .exc c (env.set i .no)
    | .bad => .bad) else .bad
  | _ => .bad
def callX (env : List Sl) (i k f : Nat) (ds : List D) : RM D := match env[i]? with
  | some (.ob b k' fs) => if k' = k ∧ isDk k = true then (match metX (F f (.tuple fs :: ds)) with
    | .ok d gs => .ok d (env.set i (.ob b k gs))
    | .exc c gs => .exc c (env.set i (.ob b k gs))
    | .bad => .bad) else .bad
  | _ => .bad
def makeM (env : List Sl) (f : Nat) (ds : List D) : RM (List D) := match metO (F f (.tuple [] :: ds)) with
  | .ok (.none, fs) => .ok fs env
  | .exc c => .exc c env
  | _ => .bad
/-- one method of an object that is let go behind it -/
def onceM (env : List Sl) (h : Nat) (fs ds : List D) : RM D := match metO (F h (.tuple fs :: ds)) with
  | .ok r => .ok r.1 env
  | .exc c => .exc c env
  | .bad => .bad
def callL (env : List Sl) (i f : Nat) (d : D) : RM D := match env[i]? with
  | some (.ln l) => (match metL (F f [d, .list l]) with
    | .ok r => .ok r.1 (env.set i (.ln r.2))
    | _ => .bad)
  | _ => .bad
/-- a comprehension whose element may change an object -/
def lcGoM (i : Nat) (f : List Sl → RM D) : List D → List Sl → RM (List D)
  | [], e => .ok [] (e.set i .no)
  | d :: ds, e => match f ((e.set i .no).set i (.fr d)) with
    | .ok x e => (lcGoM i f ds e).bind fun l e2 => .ok (x :: l) e2
    | .exc c e => .exc c (e.set i .no)
    | .bad => .bad
mutual
def evM (env : List Sl) : M → RM D
  | .e e => liftM env (ev F env e)
  | .mc i k f ms => if hasO env i k = true then (evMs env ms).bind fun ds e => callM F e i k f ds else .bad
  | .mk k f as h bs => (liftM env (evs F env as)).bind fun ds e => (makeM F e f ds).bind fun fs e => (liftM e (evs F e bs)).bind fun es e => onceM F e h fs es
  | .tup ms => (evMs env ms).bind fun ds e => .ok (.tuple ds) e
  | .not m => (evM env m).bind fun d e => match d with
    | .bool b => .ok (.bool (!b)) e
    | _ => .bad
  | .and a b => (evM env a).bind fun d e => match d with
    | .bool true => evM e b
    | .bool false => .ok (.bool false) e
    | _ => .bad
  | .cl i f a => (liftM env (ev F env a)).bind fun d e => callL F e i f d
  | .cmp o m e => (evM env m).bind fun d e2 => (liftM e2 (ev F e2 e)).bind fun y e3 => liftM e3 (cmR o d y)
  | .ind m j => (evM env m).bind fun d e2 => liftM e2 (indR j d)
  | .call f ms => (evMs env ms).bind fun ds e => liftM e (F f ds)
  | .bf f ms => (evMs env ms).bind fun ds e => liftM e (bfR f ds)
  | .mx i k f ms => if hasO env i k = true then (evMs env ms).bind fun ds e => callX F e i k f ds else .bad
  | .or a b => (evM env a).bind fun d e => match d with
    | .bool true => .ok (.bool true) e
    | .bool false => evM e b
    | _ => .bad
  | .lcm i m it => (liftM env (evI F env it)).bind fun ds e => (lcGoM i (fun e => evM e m) ds e).bind fun l e2 => .ok (.list l) e2
def evMs (env : List Sl) : Ms → RM (List D)
  | .nil => .ok [] env
  | .cons m ms => (evM env m).bind fun d e => (evMs e ms).bind fun ds e => .ok (d :: ds) e
end

inductive Out where
  | next (env : List Sl)
  | ret (d : D)
  | brk (env : List Sl)
  | cont (env : List Sl)
  | exc (c : Str) (env : List Sl)
  | bad

def see (env : List Sl) : List Nat → List Sl
  | [] => env
  | i :: l => see (match env[i]? with
    | some (.ow ds) => env.set i (.fr (.list ds))
    | _ => env) l

def forGo (f : D → List Sl → Out) : List D → List Sl → Out
  | [], env => .next env
  | d :: ds, env => match f d env with
    | .next e => forGo f ds e
    | .cont e => forGo f ds e
    | .brk e => .next e
    | .ret x => .ret x
    | .exc c e => .exc c e
    | .bad => .bad

/-- so many turns of a while -/
def whlN (c : List Sl → R Bool) (b : List Sl → Out) : Nat → List Sl → Option Out
  | 0, _ => none
  | n + 1, env => match c env with
    | .ok true => (match b env with
      | .next e => whlN c b n e
      | .cont e => whlN c b n e
      | .brk e => some (.next e)
      | .ret x => some (.ret x)
      | .exc c e => some (.exc c e)
      | .bad => some .bad)
    | .ok false => some (.next env)
    | .exc x => some (.exc x env)
    | .bad => some .bad
open Classical in
noncomputable def whl (c : List Sl → R Bool) (b : List Sl → Out) (env : List Sl) : Out :=
  if h : ∃ n o, whlN c b n env = some o then Classical.choose (Classical.choose_spec h) else .bad

def toB : R D → R Bool
  | .ok (.bool b) => .ok b
  | .ok _ => .bad
  | .exc c => .exc c
  | .bad => .bad

/-! an exception that carries a word: its code tells the word -/
def refN : Str := "Refused:"
def refC (w : Str) : Str := ⟨(refN.cps.toList ++ w.cps.toList).toArray⟩
def isRef (c : Str) : Bool := decide (c.cps.toList.take 8 = refN.cps.toList)
def refW (c : Str) : Str := ⟨(c.cps.toList.drop 8).toArray⟩
theorem isRef_c (w : Str) : isRef (refC w) = true := by
  unfold isRef refC
  rw [decide_eq_true_eq]
  have h : refN.cps.toList.length = 8 := by decide +kernel
  show (refN.cps.toList ++ w.cps.toList).take 8 = _
  rw [← h, List.take_left]
theorem refW_c (w : Str) : refW (refC w) = w := by
  unfold refW refC
  have h : refN.cps.toList.length = 8 := by decide +kernel
  show (⟨((refN.cps.toList ++ w.cps.toList).drop 8).toArray⟩ : Str) = w
  rw [← h, List.drop_left]
def isSub (c d : Str) : Bool := decide (c = d) || decide (d = Str.ofString "CloseError")

/-- of the classes cs the words ws: which one the class c is told by -/
def cntB (bs : List Bool) : Int := (bs.map fun b => if b then (1 : Int) else 0).sum
def flagsW (cs : List Str) (c : Str) : List Bool := cs.map fun k => isSub c k
def wordW (cs ws : List Str) (c : Str) : Str := if cntB (flagsW cs c) = 1 then (match (flagsW cs c).idxOf? true with
  | some j => ws.getD j ""
  | none => "") else "other"
def wtab : Nat → List Str
  | 0 => ["NoFraction", "NoStretch", "BadTerm", "BadText", "NoWorth"]
  | 1 => ["BadPaper", "BadTerm", "NoStretch", "NoWorth"]
  | 2 => ["BadText", "BadPaper", "BadTerm", "NoStretch", "NoWorth"]
  | _ => []
/-- of the classes cs: whether the class c is the first alone -/
def truW (cs : List Str) (c : Str) : Bool := match cs with
  | [] => false
  | m :: os => isSub c m && !((flagsW os c).any id)
/-- the tables of defs that tell a truth -/
def isTr (k : Nat) : Bool := decide (k = 2)
def wordT (k : Nat) (c : Str) : Str := wordW (wtab k) (wtab k) c

def onR {A : Type} (env : List Sl) (r : R A) (f : A → Out) : Out := match r with
  | .ok a => f a
  | .exc c => .exc c env
  | .bad => .bad

def onM {A : Type} (r : RM A) (f : A → List Sl → Out) : Out := match r with
  | .ok a e => f a e
  | .exc c e => .exc c e
  | .bad => .bad
def retO (d : D) (e : List Sl) : Out := match (e[0]? : Option Sl) with
  | some (.ob true _ fs) => .ret (.tuple [d, .tuple fs])
  | _ => .bad
def retLO (i : Nat) (d : D) (e : List Sl) : Out := match e[i]? with
  | some (.ln ds) => .ret (.tuple [d, .list ds])
  | _ => .bad
def fldO (i k j : Nat) (d : D) (e : List Sl) : Out := match e[i]? with
  | some (.ob b k' fs) => if k' = k ∧ j < (clsF k).length then (if j < fs.length then .next (e.set i (.ob b k (fs.set j d))) else if j = fs.length then .next (e.set i (.ob b k (fs ++ [d]))) else .bad) else .bad
  | _ => .bad
def fldEO (i k j : Nat) (e : List Sl) : Out := match e[i]? with
  | some (.ob b k' fs) => if k' = k ∧ isDk k = true ∧ j < (clsF k).length ∧ j = fs.length then .next (e.set i (.ob b k (fs ++ [.dict []]))) else .bad
  | _ => .bad
def fldDO (i k j : Nat) (d : D) (xz : D) (e : List Sl) : Out := match e[i]? with
  | some (.ob b k' fs) => (match xz with
    | .tuple [.dict ps, .str z] => if k' = k ∧ j < fs.length ∧ ps.length < 1000000 then .next (e.set i (.ob b k (fs.set j (.dict (putD ps z d))))) else .bad
    | _ => .bad)
  | _ => .bad
def keepO (k : Nat) : Out → Out
  | .exc c e => (match (e[0]? : Option Sl) with
    | some (.ob true k' fs) => if k' = k then .ret (.tuple [.str c, .tuple fs, .none]) else .bad
    | _ => .bad)
  | .ret (.tuple [d, .tuple fs]) => .ret (.tuple [d, .tuple fs])
  | _ => .bad
/-- a datum, or a tuple of such, that may be put into a list of one's own -/
def flt2 : D → Bool
  | .tuple l => l.all flatD
  | d => flatD d
def setXO (env : List Sl) (i : Nat) (ds : List D) (d : D) : D → Out
  | .int j => if flt2 d = true ∧ 0 ≤ j ∧ j < ds.length then .next (env.set i (.ow (ds.set j.toNat d))) else .bad
  | _ => .bad
mutual
noncomputable def evS (env : List Sl) : S → Out
  | .asg i ms e => onR env (ev F (see env ms) e) fun d => .next ((if flatD d = true then env else see env ms).set i (.fr d))
  | .asgL i ms e => onR env (ev F (see env ms) e) fun d => match d with
    | .list ds => .next ((see env ms).set i (.ow ds))
    | _ => .bad
  | .asgT l ms e => onR env (ev F (see env ms) e) fun d => match setT (see env ms) (.many l) d with
    | .ok e2 => .next e2
    | _ => .bad
  | .par i j ms a b => onR env (ev F (see env ms) a) fun x => onR env (ev F (see env ms) b) fun y => .next (((see env ms).set i (.fr x)).set j (.fr y))
  | .parL i j ms a b => onR env (ev F (see env ms) a) fun x => onR env (ev F (see env ms) b) fun y => match x with
    | .list ds => .next (((see env ms).set i (.ow ds)).set j (.fr y))
    | _ => .bad
  | .ret ms e => onR env (ev F (see env ms) e) fun d => .ret d
  | .iff ms c a b => onR env (toB (ev F (see env ms) c)) fun x => if x = true then evSs env a else evSs env b
  | .whl ms c b => whl (fun e => toB (ev F (see e ms) c)) (fun e => evSs e b) env
  | .for_ ms tg it b => onR env (evI F (see env ms) it) fun ds => forGo (fun d e => match setT e tg d with
    | .ok e2 => evSs e2 b
    | _ => .bad) ds (see env ms)
  | .app i ms e => match env[i]? with
    | some (.ow ds) => onR env (ev F (see env ms) e) fun d => if ds.length < sizeLine then .next ((see env ms).set i (.ow (ds ++ [d]))) else .bad
    | _ => .bad
  | .ext i ms e => match env[i]? with
    | some (.ow ds) => onR env (ev F (see env ms) e) fun d => match d with
      | .list l => if ds.length + l.length ≤ sizeLine then .next ((see env ms).set i (.ow (ds ++ l))) else .bad
      | _ => .bad
    | _ => .bad
  | .popT l i => match env[i]? with
    | some (.ow ds) => (match ds.getLast? with
      | some d => (match setT (env.set i (.ow ds.dropLast)) (.many l) d with
        | .ok e2 => .next e2
        | _ => .bad)
      | none => .bad)
    | _ => .bad
  | .setC i a b => match env[i]? with
    | some (.ow ds) => (match ds[b]? with
      | some d => if a < ds.length then .next (env.set i (.ow (ds.set a d))) else .bad
      | none => .bad)
    | _ => .bad
  | .setX i ms a e => match env[i]? with
    | some (.ow ds) => onR env (ev F (see env ms) e) fun d => onR env (ev F (see env ms) a) (setXO env i ds d)
    | _ => .bad
  | .asgU l ms e => onR env (ev F (see env ms) e) fun d => match d with
    | .list ds => (match setMany (see env ms) l ds with
      | .ok e2 => .next e2
      | _ => .bad)
    | _ => .bad
  | .rais c => .exc c env
  | .tryN b c i d => match evSs env b with
    | .exc c2 e => if isRef c2 = true then .bad else if isSub c2 c = true then .next (e.set i (.fr d)) else .exc c2 e
    | o => o
  | .tryW b i k => match evSs env b with
    | .exc c e => if isRef c = true then .bad else .ret (.str (wordT k c))
    | o => o
  | .tryA b i k j => match evSs env b with
    | .exc c e => if isRef c = true then .bad else (match e[j]? with
      | some (.ow ds) => if ds.length < sizeLine then .next ((e.set i .no).set j (.ow (ds ++ [.str (wordT k c)]))) else .bad
      | _ => .bad)
    | o => o
  | .expr ms e => onR env (ev F (see env ms) e) fun _ => .next env
  | .self k => match (env[0]? : Option Sl) with
    | some (.fr (.tuple fs)) => .next (env.set 0 (.ob true k fs))
    | _ => .bad
  | .selfI k => match (env[0]? : Option Sl) with
    | some (.fr (.tuple fs)) => .next (env.set 0 (.ob true k fs))
    | _ => .bad
  | .asgM i m => onM (evM F env m) fun d e => .next (e.set i (.fr d))
  | .retM m => onM (evM F env m) retO
  | .retP m => onM (evM F env m) fun d _ => .ret d
  | .iffM m a b => onM (evM F env m) fun d e => match d with
    | .bool true => evSs e a
    | .bool false => evSs e b
    | _ => .bad
  | .whlM m b => whl (fun _ => .ok true) (fun e => onM (evM F e m) fun d e2 => match d with
    | .bool true => evSs e2 b
    | .bool false => .brk e2
    | _ => .bad) env
  | .exprM m => onM (evM F env m) fun _ e => .next e
  | .fld i k j m => onM (evM F env m) (fldO i k j)
  | .new i k f ms => onM ((evMs F env ms).bind fun ds e => makeM F e f ds) fun fs e => .next (e.set i (.ob false k fs))
  | .selfL i => match env[i]? with
    | some (.fr (.list ds)) => .next (env.set i (.ln ds))
    | _ => .bad
  | .appL i e => match env[i]? with
    | some (.ln ds) => onR env (ev F env e) fun d => if ds.length < sizeLine then .next (env.set i (.ln (ds ++ [d]))) else .bad
    | _ => .bad
  | .retL i e => match env[i]? with
    | some (.ln ds) => onR env (ev F (env.set i (.fr (.list ds))) e) fun d => if flatD d = true then .ret (.tuple [d, .list ds]) else .bad
    | _ => .bad
  | .retLM i m => onM (evM F env m) (retLO i)
  | .tryT b i k o w => match evSs env b with
    | .exc c e => if isRef c = true then .bad else .ret (.str (if truW (wtab k) c = true then w else o))
    | o2 => o2
  | .tryR b c d => match evSs env b with
    | .exc c2 e => if isRef c2 = true then .bad else if isSub c2 c = true then .ret d else .exc c2 e
    | o => o
  | .dct3 i ks es ks2 es2 a => if i < env.length then onR env (evs F env es) fun ds => onR (env.set i .no) (evs F (env.set i .no) es2) fun ds2 => onR (env.set i .no) (ev F (env.set i .no) a) fun x => match lkR (ks ++ ks2) (ds ++ ds2) x with
    | .ok d => .ret d
    | _ => .bad
    else .bad
  | .fldE i k j => fldEO i k j env
  | .fldD i k j a m => onM (evM F env m) fun d e => onR e ((attK e i k j).bind fun x => (ev F e a).bind fun z => .ok (.tuple [x, z])) fun xz => fldDO i k j d xz e
  | .asgMT l m => onM (evM F env m) fun d e => match setT e (.many l) d with
    | .ok e2 => .next e2
    | _ => .bad
  | .raisW i => match env[i]? with
    | some (.fr (.str w)) => .exc (refC w) env
    | _ => .bad
  | .tryD b pre hs i => match evSs env b with
    | .exc c e => if isRef c = true then (if pre.length + (refW c).length ≤ sizeLine then retO (.str (pre ++ refW c)) e else .bad) else (match hs.find? (fun h => isSub c h.1) with
      | some h => retO (.str h.2) e
      | none => .exc c e)
    | .next e => (match e[i]? with
      | some (.fr d) => retO d e
      | _ => .bad)
    | _ => .bad
  | .keep _ k b => match (env[0]? : Option Sl) with
    | some (.fr (.tuple fs)) => keepO k (evSs (env.set 0 (.ob true k fs)) b)
    | _ => .bad
  | .brk => .brk env
  | .cont => .cont env
  | .pass => .next env
noncomputable def evSs (env : List Sl) : Ss → Out
  | .nil => .next env
  | .cons s ss => match evS env s with
    | .next e => evSs e ss
    | o => o
end
end

/-- a def: how many parameters, how many slots, its body -/
structure Def where
  ps : Nat
  sl : Nat
  body : Ss
/-- whether a def is a class's maker: it takes a level more -/
def Def.ini (d : Def) : Bool := match d.body with
  | .cons (.selfI _) _ => true
  | .cons (.keep true _ _) _ => true
  | _ => false

def startE (n : Nat) (ds : List D) : List Sl := ds.map Sl.fr ++ List.replicate (n - ds.length) Sl.no

noncomputable def runD (F : Nat → List D → R D) (d : Def) (ds : List D) : R D :=
  if ds.length = d.ps then
    (match evSs F (startE d.sl ds) d.body with
    | .next _ => .ok .none
    | .ret x => .ok x
    | .exc c _ => .exc c
    | _ => .bad)
  else .bad

noncomputable def evc (T : Nat → Option Def) : Nat → Nat → List D → R D
  | 0, _, _ => .bad
  | n + 1, f, ds => match T f with
    | some d => if d.ini = true then (match n with
      | 0 => .bad
      | m + 1 => runD (evc T m) d ds) else runD (evc T n) d ds
    | none => .bad
theorem evc_one {T : Nat → Option Def} {n i : Nat} {d : Def} {ds : List D} (h : T i = some d) (hi : d.ini = false) : evc T (n + 1) i ds = runD (evc T n) d ds := by
  rw [evc]
  rw [h]
  dsimp only
  rw [hi, if_neg Bool.false_ne_true]
theorem evc_ini {T : Nat → Option Def} {n i : Nat} {d : Def} {ds : List D} (h : T i = some d) (hi : d.ini = true) : evc T (n + 2) i ds = runD (evc T n) d ds := by
  rw [evc]
  rw [h]
  dsimp only
  rw [hi, if_pos rfl]
theorem evc_ini1 {T : Nat → Option Def} {i : Nat} {d : Def} {ds : List D} (h : T i = some d) (hi : d.ini = true) : evc T 1 i ds = .bad := by
  rw [evc]
  rw [h]
  dsimp only
  rw [hi, if_pos rfl]
end Cw

set_option Elab.async false
set_option linter.all false
set_option maxRecDepth 100000
set_option maxHeartbeats 4000000
namespace Cw
open PySem PySem.Spec PyProof.Rows L2

/-! ### heaps: H all that is tracked, G the part that stays for good -/
structure Ext (H G H' G' : Hp) : Prop where
  a : Same H H'
  b : Same G G'
  c : Same G' H'
  d : ∀ p o, H p = some o → G p = none → G' p = none
theorem Ext.refl {H G : Hp} (h : Same G H) : Ext H G H G := ⟨Same.refl _, Same.refl _, h, fun _ _ _ e => e⟩
theorem Ext.trans {H G H1 G1 H2 G2 : Hp} (x : Ext H G H1 G1) (y : Ext H1 G1 H2 G2) : Ext H G H2 G2 :=
  ⟨x.a.trans y.a, x.b.trans y.b, y.c, fun p o h e => y.d p o (x.a p o h) (x.d p o h e)⟩
theorem Same.upd {H : Hp} {p : Addr} {o : HO} (h : H p = none) : Same H (upd H p o) := fun b u e => by
  rw [upd_ne (ne_of_none e h)]; exact e
theorem Ext.new {H G : Hp} {p : Addr} {o : HO} (h : Same G H) (hp : H p = none) : Ext H G (upd H p o) (upd G p o) := by
  refine ⟨Same.upd hp, Same.upd (h.free hp), fun b u e => ?_, fun b u e n => ?_⟩
  · by_cases q : b = p
    · subst q; rw [upd_same] at e ⊢; exact e
    · rw [upd_ne q] at e ⊢; exact h b u e
  · have q : b ≠ p := ne_of_none e hp
    rw [upd_ne q]; exact n
theorem Same.seqT {K : PySem.W.Frag} {H H' : Hp} {a : Addr} {xs : List V} (e : Same H H') (h : SqT K H a xs) : SqT K H' a xs := by
  rcases h with (h | ⟨o, h⟩) | h
  · exact .inl (.inl (e _ _ h))
  · exact .inl (.inr ⟨o, e _ _ h⟩)
  · exact .inr h
mutual
theorem dp_mono {K : PySem.W.Frag} {H H' : Hp} (e : Same H H') : ∀ {v : V} {d : D}, Dp K H v d → Dp K H' v d
  | _, _, .non => .non
  | _, _, .bl b => .bl b
  | _, _, .int i => .int i
  | _, _, .str x => .str x
  | _, _, .lst q r => .lst (e.seq q) (dpAll_mono e r)
  | _, _, .tup q r => .tup (Same.seqT e q) (dpAll_mono e r)
theorem dpAll_mono {K : PySem.W.Frag} {H H' : Hp} (e : Same H H') : ∀ {vs : List V} {ds : List D}, DpAll K H vs ds → DpAll K H' vs ds
  | _, _, .nil => .nil
  | _, _, .cons a b => .cons (dp_mono e a) (dpAll_mono e b)
end
theorem dpAll_len {K : PySem.W.Frag} {H : Hp} : ∀ {vs : List V} {ds : List D}, DpAll K H vs ds → vs.length = ds.length
  | _, _, .nil => rfl
  | _, _, .cons _ b => by rw [List.length_cons, List.length_cons, dpAll_len b]
theorem dpAll_get {K : PySem.W.Frag} {H : Hp} : ∀ {vs : List V} {ds : List D} {i : Nat} {d : D}, DpAll K H vs ds → ds[i]? = some d → ∃ v, vs[i]? = some v ∧ Dp K H v d
  | _, _, _, _, .nil, e => by simp at e
  | _, _, 0, _, .cons a _, e => by simp at e; subst e; exact ⟨_, rfl, a⟩
  | _, _, i + 1, d, .cons _ b, e => by
    obtain ⟨v, h1, h2⟩ := dpAll_get (i := i) (d := d) b (by simpa using e)
    exact ⟨v, by simpa using h1, h2⟩
theorem dpAll_getV {K : PySem.W.Frag} {H : Hp} : ∀ {vs : List V} {ds : List D} {i : Nat} {v : V}, DpAll K H vs ds → vs[i]? = some v → ∃ d, ds[i]? = some d ∧ Dp K H v d
  | _, _, _, _, .nil, e => by simp at e
  | _, _, 0, _, .cons a _, e => by simp at e; subst e; exact ⟨_, rfl, a⟩
  | _, _, i + 1, d, .cons _ b, e => by
    obtain ⟨v, h1, h2⟩ := dpAll_getV (i := i) (v := d) b (by simpa using e)
    exact ⟨v, by simpa using h1, h2⟩
theorem dpAll_app {K : PySem.W.Frag} {H : Hp} : ∀ {vs ws : List V} {ds es : List D}, DpAll K H vs ds → DpAll K H ws es → DpAll K H (vs ++ ws) (ds ++ es)
  | _, _, _, _, .nil, h => h
  | _, _, _, _, .cons a b, h => .cons a (dpAll_app b h)
theorem dpAll_take {K : PySem.W.Frag} {H : Hp} : ∀ {vs : List V} {ds : List D} (n : Nat), DpAll K H vs ds → DpAll K H (vs.take n) (ds.take n)
  | _, _, 0, _ => .nil
  | _, _, _ + 1, .nil => .nil
  | _, _, n + 1, .cons a b => .cons a (dpAll_take n b)
theorem dpAll_drop {K : PySem.W.Frag} {H : Hp} : ∀ {vs : List V} {ds : List D} (n : Nat), DpAll K H vs ds → DpAll K H (vs.drop n) (ds.drop n)
  | _, _, 0, h => h
  | _, _, _ + 1, .nil => .nil
  | _, _, n + 1, .cons _ b => dpAll_drop n b
theorem dpAll_rep {K : PySem.W.Frag} {H : Hp} {vs : List V} {ds : List D} (h : DpAll K H vs ds) : ∀ n : Nat, DpAll K H (List.replicate n vs).flatten (List.replicate n ds).flatten
  | 0 => .nil
  | n + 1 => by rw [List.replicate_succ, List.replicate_succ, List.flatten_cons, List.flatten_cons]; exact dpAll_app h (dpAll_rep h n)
theorem dpAll_ints {K : PySem.W.Frag} {H : Hp} : ∀ {vs : List V} {ds : List D} {ns : List Int}, DpAll K H vs ds → intsOf ds = some ns → vs = ns.map V.int
  | _, _, _, .nil, e => by cases e; rfl
  | _, _, _, .cons (ds := ds) a b, e => by
    cases a with
    | int i =>
      rw [intsOf] at e
      obtain ⟨l, h1, h2⟩ := Option.map_eq_some_iff.mp e
      subst h2
      rw [dpAll_ints b h1]; rfl
    | _ => cases e
theorem dpAll_bls {K : PySem.W.Frag} {H : Hp} : ∀ {vs : List V} {ds : List D} {ns : List Bool}, DpAll K H vs ds → blsOf ds = some ns → vs = ns.map V.bl
  | _, _, _, .nil, e => by cases e; rfl
  | _, _, _, .cons (ds := ds) a b, e => by
    cases a with
    | bl i =>
      rw [blsOf] at e
      obtain ⟨l, h1, h2⟩ := Option.map_eq_some_iff.mp e
      subst h2
      rw [dpAll_bls b h1]; rfl
    | _ => cases e

/-! ### a heap without an object -/
def del (H : Hp) (p : Addr) : Hp := fun b => if b = p then none else H b
theorem del_ne {H : Hp} {p b : Addr} (h : b ≠ p) : del H p b = H b := if_neg h
theorem del_self {H : Hp} {p : Addr} : del H p p = none := if_pos rfl
theorem del_some {H : Hp} {p b : Addr} {o : HO} (h : del H p b = some o) : b ≠ p ∧ H b = some o := by
  unfold del at h
  split at h
  · cases h
  · exact ⟨‹_›, h⟩
theorem del_same {H : Hp} {p : Addr} : Same (del H p) H := fun b o h => (del_some h).2

/-! ### objects with dicts of their own -/
def refsV : List V → List Addr
  | [] => []
  | .ref a :: l => a :: refsV l
  | .non :: l => refsV l
  | .bl _ :: l => refsV l
  | .int _ :: l => refsV l
  | .str _ :: l => refsV l
  | .byt _ :: l => refsV l
  | .flt _ :: l => refsV l
  | .ty _ :: l => refsV l
def rgO (k : Nat) (p : Addr) : Option HO → List Addr
  | some (.ins _ _ fs) => if isDk k = true then p :: refsV (fs.map (·.2)) else [p]
  | _ => [p]
/-- the addresses that an object of class k at p has for itself -/
def rg (H : Hp) (k : Nat) (p : Addr) : List Addr := rgO k p (H p)
theorem rg_self {H : Hp} {k : Nat} {p : Addr} : p ∈ rg H k p := by
  unfold rg rgO
  split
  · split
    · exact List.mem_cons_self
    · exact List.mem_singleton.mpr rfl
  · exact List.mem_singleton.mpr rfl
theorem rg_eq {H H' : Hp} {k : Nat} {p : Addr} (h : H' p = H p) : rg H' k p = rg H k p := by unfold rg; rw [h]
theorem rg_one {H : Hp} {k : Nat} {p : Addr} (h : isDk k = false) : rg H k p = [p] := by
  unfold rg rgO
  rw [h]
  split <;> rfl
def delL (H : Hp) (R : List Addr) : Hp := fun b => if b ∈ R then none else H b
theorem delL_ne {H : Hp} {R : List Addr} {b : Addr} (h : b ∉ R) : delL H R b = H b := if_neg h
theorem delL_in {H : Hp} {R : List Addr} {b : Addr} (h : b ∈ R) : delL H R b = none := if_pos h
theorem delL_some {H : Hp} {R : List Addr} {b : Addr} {o : HO} (h : delL H R b = some o) : b ∉ R ∧ H b = some o := by
  unfold delL at h
  split at h
  · cases h
  · exact ⟨‹_›, h⟩
theorem delL_same {H : Hp} {R : List Addr} : Same (delL H R) H := fun b o h => (delL_some h).2
/-- what a dict of one's own holds -/
def KvR (K : PySem.W.Frag) (G : Hp) : List (Key × V) → List (D × D) → Prop := Paired fun kv p => ∃ z : Str, kv.1 = Sum.inr z ∧ p.1 = .str z ∧ Dp K G kv.2 p.2
inductive DkAll (K : PySem.W.Frag) (G H : Hp) : List V → List D → Prop
  | nil : DkAll K G H [] []
  | cons {t : Addr} {kvs : List (Key × V)} {ps : List (D × D)} {vs : List V} {fs : List D} : H t = some (.dK kvs) → KvR K G kvs ps → kvs.length ≤ 1000000 → DkAll K G H vs fs → DkAll K G H (.ref t :: vs) (.dict ps :: fs)
/-! ### as long as the lists and tuples stand -/
def SameD (G G' : Hp) : Prop := ∀ b o, G b = some o → (match o with | .ins _ _ _ => false | .dK _ => false | _ => true) = true → G' b = some o
theorem Same.d {G G' : Hp} (h : Same G G') : SameD G G' := fun b o e _ => h b o e
theorem SameD.trans {G G' G2 : Hp} (h : SameD G G') (h2 : Same G' G2) : SameD G G2 := fun b o e n => h2 b o (h b o e n)
theorem SameD.seq {K : PySem.W.Frag} {H H' : Hp} {a : Addr} {xs : List V} (e : SameD H H') (h : SqL K H a xs) : SqL K H' a xs := by
  rcases h with (h | ⟨o, h⟩) | h
  · exact .inl (.inl (e _ _ h rfl))
  · exact .inl (.inr ⟨o, e _ _ h rfl⟩)
  · exact .inr h
theorem SameD.seqT {K : PySem.W.Frag} {H H' : Hp} {a : Addr} {xs : List V} (e : SameD H H') (h : SqT K H a xs) : SqT K H' a xs := by
  rcases h with (h | ⟨o, h⟩) | h
  · exact .inl (.inl (e _ _ h rfl))
  · exact .inl (.inr ⟨o, e _ _ h rfl⟩)
  · exact .inr h
mutual
theorem dp_monoD {K : PySem.W.Frag} {H H' : Hp} (e : SameD H H') : ∀ {v : V} {d : D}, Dp K H v d → Dp K H' v d
  | _, _, .non => .non
  | _, _, .bl b => .bl b
  | _, _, .int i => .int i
  | _, _, .str x => .str x
  | _, _, .lst q r => .lst (e.seq q) (dpAll_monoD e r)
  | _, _, .tup q r => .tup (e.seqT q) (dpAll_monoD e r)
theorem dpAll_monoD {K : PySem.W.Frag} {H H' : Hp} (e : SameD H H') : ∀ {vs : List V} {ds : List D}, DpAll K H vs ds → DpAll K H' vs ds
  | _, _, .nil => .nil
  | _, _, .cons a b => .cons (dp_monoD e a) (dpAll_monoD e b)
end

/-! ### slots -/
/-- the class numbered k -/
def clsA (K : PySem.W.Frag) (k : Nat) : Addr := He.ga K (clsN k)
def insO (K : PySem.W.Frag) (k : Nat) (dx : Addr) (vs : List V) : HO := .ins (clsA K k) dx ((clsF k).zip vs)
theorem kvR_mono {K : PySem.W.Frag} {G G' : Hp} (s : Same G G') {kvs : List (Key × V)} {ps : List (D × D)} (h : KvR K G kvs ps) : KvR K G' kvs ps := by
  unfold KvR at *
  induction h with
  | nil => exact .nil
  | cons a b ih =>
    obtain ⟨z, h1, h2, h3⟩ := a
    exact .cons ⟨z, h1, h2, dp_mono s h3⟩ ih
theorem kvR_monoD {K : PySem.W.Frag} {G G' : Hp} (s : SameD G G') {kvs : List (Key × V)} {ps : List (D × D)} (h : KvR K G kvs ps) : KvR K G' kvs ps := by
  unfold KvR at *
  induction h with
  | nil => exact .nil
  | cons a b ih =>
    obtain ⟨z, h1, h2, h3⟩ := a
    exact .cons ⟨z, h1, h2, dp_monoD s h3⟩ ih
/-- the fields of an object of class k -/
def FlR (K : PySem.W.Frag) (G H : Hp) (k : Nat) (vs : List V) (fs : List D) : Prop := if isDk k = true then DkAll K G H vs fs ∧ (refsV vs).Nodup ∧ vs.length ≤ (clsF k).length else DpAll K G vs fs
theorem FlR.dp {K : PySem.W.Frag} {G H : Hp} {k : Nat} {vs : List V} {fs : List D} (h : FlR K G H k vs fs) (n : isDk k = false) : DpAll K G vs fs := by
  unfold FlR at h
  rwa [n, if_neg Bool.false_ne_true] at h
theorem FlR.of {K : PySem.W.Frag} {G H : Hp} {k : Nat} {vs : List V} {fs : List D} (h : DpAll K G vs fs) (n : isDk k = false) : FlR K G H k vs fs := by
  unfold FlR
  rwa [n, if_neg Bool.false_ne_true]
theorem FlR.dk {K : PySem.W.Frag} {G H : Hp} {k : Nat} {vs : List V} {fs : List D} (h : FlR K G H k vs fs) (n : isDk k = true) : DkAll K G H vs fs ∧ (refsV vs).Nodup ∧ vs.length ≤ (clsF k).length := by
  unfold FlR at h
  rwa [n, if_pos rfl] at h
theorem dk_ref {K : PySem.W.Frag} {G H : Hp} : ∀ {vs : List V} {fs : List D}, DkAll K G H vs fs → ∀ t ∈ refsV vs, ∃ kvs, H t = some (.dK kvs)
  | _, _, .nil, t, h => by cases h
  | _, _, .cons a _ _ b, t, h => by
    rcases List.mem_cons.mp h with e | e
    · rw [e]; exact ⟨_, a⟩
    · exact dk_ref b t e
theorem dk_move {K : PySem.W.Frag} {G H G' H' : Hp} (s : Same G G') : ∀ {vs : List V} {fs : List D}, DkAll K G H vs fs → (∀ t ∈ refsV vs, ∀ o, H t = some o → H' t = some o) → DkAll K G' H' vs fs
  | _, _, .nil, _ => .nil
  | _, _, .cons a b c d, h => .cons (h _ List.mem_cons_self _ a) (kvR_mono s b) c (dk_move s d fun t ht => h t (List.mem_cons_of_mem _ ht))
theorem dk_moveD {K : PySem.W.Frag} {G H G' : Hp} (s : SameD G G') : ∀ {vs : List V} {fs : List D}, DkAll K G H vs fs → DkAll K G' H vs fs
  | _, _, .nil => .nil
  | _, _, .cons a b c d => .cons a (kvR_monoD s b) c (dk_moveD s d)
theorem dk_len {K : PySem.W.Frag} {G H : Hp} : ∀ {vs : List V} {fs : List D}, DkAll K G H vs fs → vs.length = fs.length
  | _, _, .nil => rfl
  | _, _, .cons _ _ _ d => by rw [List.length_cons, List.length_cons, dk_len d]
theorem FlR.len {K : PySem.W.Frag} {G H : Hp} {k : Nat} {vs : List V} {fs : List D} (h : FlR K G H k vs fs) : vs.length = fs.length := by
  cases n : isDk k with
  | true => exact dk_len (h.dk n).1
  | false => exact dpAll_len (h.dp n)
theorem zip_snd {A B : Type} : ∀ {l : List A} {m : List B}, m.length ≤ l.length → (l.zip m).map (·.2) = m
  | _, [], _ => by simp
  | [], _ :: _, h => by simp at h
  | a :: l, b :: m, h => by
    rw [List.zip_cons_cons, List.map_cons, zip_snd (by simpa using h)]
theorem rg_dk {K : PySem.W.Frag} {H : Hp} {k : Nat} {p dx : Addr} {vs : List V} (hp : H p = some (insO K k dx vs)) (n : isDk k = true) (hl : vs.length ≤ (clsF k).length) : rg H k p = p :: refsV vs := by
  unfold rg rgO
  rw [hp]
  unfold insO
  dsimp only
  rw [n, if_pos rfl, zip_snd hl]
theorem FlR.move {K : PySem.W.Frag} {G H G' H' : Hp} {k : Nat} {p dx : Addr} {vs : List V} {fs : List D} (h : FlR K G H k vs fs) (hp : H p = some (insO K k dx vs)) (s : Same G G') (m : ∀ r ∈ rg H k p, ∀ o, H r = some o → H' r = some o) : FlR K G' H' k vs fs := by
  cases n : isDk k with
  | true =>
    obtain ⟨a, b, c⟩ := h.dk n
    have e := rg_dk hp n c
    unfold FlR
    rw [n, if_pos rfl]
    exact ⟨dk_move s a fun t ht => m t (by rw [e]; exact List.mem_cons_of_mem _ ht), b, c⟩
  | false => exact .of (dpAll_mono s (h.dp n)) n
theorem rg_facts {K : PySem.W.Frag} {G H : Hp} {k : Nat} {p dx : Addr} {vs : List V} {fs : List D} (hp : H p = some (insO K k dx vs)) (h : FlR K G H k vs fs) : ∀ r ∈ rg H k p, (∃ o, H r = some o) ∧ ∀ ws, H r ≠ some (.lst ws) := by
  intro r hr
  have key : (∃ o, H p = some o) ∧ ∀ ws, H p ≠ some (.lst ws) := ⟨⟨_, hp⟩, fun ws z => by
    rw [hp] at z
    have := Option.some.inj z
    cases this⟩
  cases n : isDk k with
  | true =>
    obtain ⟨a, b, c⟩ := h.dk n
    rw [rg_dk hp n c] at hr
    rcases List.mem_cons.mp hr with e | e
    · rw [e]; exact key
    · obtain ⟨kvs, hk⟩ := dk_ref a r e
      exact ⟨⟨_, hk⟩, fun ws z => by rw [hk] at z; cases z⟩
  | false =>
    rw [rg_one n] at hr
    rw [List.mem_singleton.mp hr]
    exact key
/-- the data in the slots -/
structure EnvL (K : PySem.W.Frag) (G : Hp) (σ : L2.St) (env : List Sl) : Prop where
  len : σ.length = env.length
  get : ∀ (i : Nat) (d : D), env[i]? = some (.fr d) → ∃ v, σ[i]? = some (some v) ∧ Dp K G v d
/-- the data and the objects in the slots, as long as nothing changes -/
structure EnvR (K : PySem.W.Frag) (G : Hp) (σ : L2.St) (env : List Sl) : Prop extends EnvL K G σ env where
  ob : ∀ (i : Nat) (b : Bool) (k : Nat) (fs : List D), env[i]? = some (.ob b k fs) → ∃ p dx vs, σ[i]? = some (some (.ref p)) ∧ G p = some (insO K k dx vs) ∧ FlR K G G k vs fs
theorem EnvL.mono {K : PySem.W.Frag} {G G' : Hp} {σ : L2.St} {env : List Sl} (h : EnvL K G σ env) (e : Same G G') : EnvL K G' σ env :=
  ⟨h.len, fun i d q => let ⟨v, a, b⟩ := h.get i d q; ⟨v, a, dp_mono e b⟩⟩
theorem EnvR.mono {K : PySem.W.Frag} {G G' : Hp} {σ : L2.St} {env : List Sl} (h : EnvR K G σ env) (e : Same G G') : EnvR K G' σ env :=
  ⟨h.toEnvL.mono e, fun i b k fs q => let ⟨p, dx, vs, a1, a2, a3⟩ := h.ob i b k fs q; ⟨p, dx, vs, a1, e _ _ a2, a3.move a2 e fun r _ o h => e r o h⟩⟩
theorem EnvL.set {K : PySem.W.Frag} {G : Hp} {σ : L2.St} {env : List Sl} {i : Nat} {v : V} {d : D} (h : EnvL K G σ env) (p : Dp K G v d) : EnvL K G (σ.set i (some v)) (env.set i (.fr d)) := by
  refine ⟨by rw [List.length_set, List.length_set, h.len], fun j e q => ?_⟩
  by_cases z : i = j
  · subst z
    by_cases hi : i < env.length
    · rw [List.getElem?_set_self hi] at q
      cases q
      exact ⟨v, List.getElem?_set_self (by rw [h.len]; exact hi), p⟩
    · rw [List.getElem?_eq_none (by rw [List.length_set]; omega)] at q
      cases q
  · rw [List.getElem?_set_ne z] at q ⊢
    exact h.get j e q
theorem EnvL.unset {K : PySem.W.Frag} {G : Hp} {σ : L2.St} {env : List Sl} {i : Nat} {o : Option V} (h : EnvL K G σ env) : EnvL K G (σ.set i o) (env.set i .no) := by
  refine ⟨by rw [List.length_set, List.length_set, h.len], fun j e q => ?_⟩
  by_cases z : i = j
  · subst z
    by_cases hi : i < env.length
    · rw [List.getElem?_set_self hi] at q
      cases q
    · rw [List.getElem?_eq_none (by rw [List.length_set]; omega)] at q
      cases q
  · rw [List.getElem?_set_ne z] at q ⊢
    exact h.get j e q
theorem ob_set {env : List Sl} {i j : Nat} {z : Sl} {b : Bool} {k : Nat} {fs : List D} (hz : z ≠ .ob b k fs) (q : (env.set i z)[j]? = some (.ob b k fs)) : i ≠ j ∧ env[j]? = some (.ob b k fs) := by
  by_cases e : i = j
  · subst e
    by_cases hi : i < env.length
    · rw [List.getElem?_set_self hi] at q
      exact (hz (Option.some.inj q)).elim
    · rw [List.getElem?_eq_none (by rw [List.length_set]; omega)] at q
      cases q
  · rw [List.getElem?_set_ne e] at q
    exact ⟨e, q⟩
theorem EnvR.set {K : PySem.W.Frag} {G : Hp} {σ : L2.St} {env : List Sl} {i : Nat} {v : V} {d : D} (h : EnvR K G σ env) (p : Dp K G v d) : EnvR K G (σ.set i (some v)) (env.set i (.fr d)) :=
  ⟨h.toEnvL.set p, fun j b k fs q => by
    obtain ⟨n, q⟩ := ob_set (by intro z; cases z) q
    rw [List.getElem?_set_ne n]
    exact h.ob j b k fs q⟩
theorem EnvR.unset {K : PySem.W.Frag} {G : Hp} {σ : L2.St} {env : List Sl} {i : Nat} {o : Option V} (h : EnvR K G σ env) : EnvR K G (σ.set i o) (env.set i .no) :=
  ⟨h.toEnvL.unset, fun j b k fs q => by
    obtain ⟨n, q⟩ := ob_set (by intro z; cases z) q
    rw [List.getElem?_set_ne n]
    exact h.ob j b k fs q⟩
theorem EnvR.wipe {K : PySem.W.Frag} {G : Hp} {σ : L2.St} {env : List Sl} (h : EnvR K G σ env) : ∀ l : List Nat, EnvR K G (L2.wipe σ l) (wipeE env l)
  | [] => h
  | _ :: l => (EnvR.wipe h l).unset

/-! ### readings -/
/-- what is wanted behind something that comes to r -/
def Rs (K : PySem.W.Frag) (B : Str → Hp → Prop) (H G : Hp) (Q : VK) : R D → Prop
  | .ok d => ∀ v H' G', Ext H G H' G' → Dp K G' v d → Q v H'
  | .exc c => ∀ H' G', Ext H G H' G' → B c H'
  | .bad => False
def RsA (K : PySem.W.Frag) (B : Str → Hp → Prop) (H G : Hp) (Q : List V → Hp → Prop) : R (List D) → Prop
  | .ok d => ∀ v H' G', Ext H G H' G' → DpAll K G' v d → Q v H'
  | .exc c => ∀ H' G', Ext H G H' G' → B c H'
  | .bad => False
def RsT (B : Str → Hp → Prop) (H G : Hp) (Q : Bool → Hp → Prop) : R D → Prop
  | .ok (.bool b) => ∀ H' G', Ext H G H' G' → Q b H'
  | .ok _ => False
  | .exc c => ∀ H' G', Ext H G H' G' → B c H'
  | .bad => False
theorem Rs.step {K : PySem.W.Frag} {B : Str → Hp → Prop} {H G H1 G1 : Hp} {Q : VK} {r : R D} (h : Rs K B H G Q r) (e : Ext H G H1 G1) : Rs K B H1 G1 Q r := by
  cases r with
  | ok d => exact fun v H' G' x p => h v H' G' (e.trans x) p
  | exc c => exact fun H' G' x => h H' G' (e.trans x)
  | bad => exact h
theorem RsA.step {K : PySem.W.Frag} {B : Str → Hp → Prop} {H G H1 G1 : Hp} {Q : List V → Hp → Prop} {r : R (List D)} (h : RsA K B H G Q r) (e : Ext H G H1 G1) : RsA K B H1 G1 Q r := by
  cases r with
  | ok d => exact fun v H' G' x p => h v H' G' (e.trans x) p
  | exc c => exact fun H' G' x => h H' G' (e.trans x)
  | bad => exact h
theorem RsT.step {B : Str → Hp → Prop} {H G H1 G1 : Hp} {Q : Bool → Hp → Prop} {r : R D} (h : RsT B H G Q r) (e : Ext H G H1 G1) : RsT B H1 G1 Q r := by
  cases r with
  | ok d => cases d with
    | bool b => exact fun H' G' x => h H' G' (e.trans x)
    | _ => exact h.elim
  | exc c => exact fun H' G' x => h H' G' (e.trans x)
  | bad => exact h
theorem Rs.now {K : PySem.W.Frag} {B : Str → Hp → Prop} {H G : Hp} {Q : VK} {d : D} {v : V} (h : Rs K B H G Q (.ok d)) (s : Same G H) (p : Dp K G v d) : Q v H := h v H G (Ext.refl s) p
theorem Rs.new {K : PySem.W.Frag} {B : Str → Hp → Prop} {H G : Hp} {Q : VK} {d : D} {p : Addr} {o : HO} (h : Rs K B H G Q (.ok d)) (s : Same G H) (hp : H p = none) (q : Dp K (upd G p o) (.ref p) d) : Q (.ref p) (upd H p o) := h (.ref p) _ _ (Ext.new s hp) q
/-- where an exception of the class named c goes; one that carries a word has a dict, too -/
def BXE (ca : Str → Value) (w : Value → Option Addr → Hp → Prop) : Str → Hp → Prop := fun c H => if isRef c = true then ∀ d, H d = none → w (ca c) (some d) (upd H d (.xd [("word", .str (refW c))])) else w (ca c) none H
theorem BXE.no {ca : Str → Value} {w : Value → Option Addr → Hp → Prop} {c : Str} {H : Hp} (n : isRef c = false) : BXE ca w c H = w (ca c) none H := by
  unfold BXE
  rw [n, if_neg Bool.false_ne_true]
theorem BXE.yes {ca : Str → Value} {w : Value → Option Addr → Hp → Prop} {c : Str} {H : Hp} (n : isRef c = true) : BXE ca w c H = ∀ d, H d = none → w (ca c) (some d) (upd H d (.xd [("word", .str (refW c))])) := by
  unfold BXE
  rw [n, if_pos rfl]
abbrev BX (ca : Str → Value) (W : WX) (σ : L2.St) : Str → Hp → Prop := BXE ca fun C a H => W C a σ H
def rdE (K : PySem.W.Frag) (ca : Str → Value) (W : WX) (r : List Sl → R D) : TE := fun σ H Q => ∃ env G, Same G H ∧ EnvR K G σ env ∧ Rs K (BX ca W σ) H G Q (r env)
def rdA (K : PySem.W.Frag) (ca : Str → Value) (W : WX) (r : List Sl → R (List D)) : TA := fun σ H Q => ∃ env G, Same G H ∧ EnvR K G σ env ∧ RsA K (BX ca W σ) H G Q (r env)
def rdT (K : PySem.W.Frag) (ca : Str → Value) (W : WX) (r : List Sl → R D) : TT := fun σ H Q => ∃ env G, Same G H ∧ EnvR K G σ env ∧ RsT (BX ca W σ) H G Q (r env)

theorem PE.imp {X : Cx} {e : Expr} {t t' : TE} (h : PE X e t) (i : ∀ σ H Q, t' σ H Q → t σ H Q) : PE X e t' := ⟨fun pins s σ H Q I q => h.run pins s σ H Q I (i _ _ _ q)⟩
theorem PT.imp {X : Cx} {e : Expr} {t t' : TT} (h : PT X e t) (i : ∀ σ H Q, t' σ H Q → t σ H Q) : PT X e t' := ⟨fun pins s σ H Q I q => h.run pins s σ H Q I (i _ _ _ q)⟩
theorem PW.imp {X : Cx} {e : Expr} {t t' : TT} (h : PW X e t) (i : ∀ σ H Q, t' σ H Q → t σ H Q) : PW X e t' := ⟨fun w pins s σ H Q I q => h.run w pins s σ H Q I (i _ _ _ q)⟩
theorem PA.imp {X : Cx} {e : List Expr} {t t' : TA} (h : PA X e t) (i : ∀ σ H Q, t' σ H Q → t σ H Q) : PA X e t' := ⟨fun p pins s σ H Q I q => h.run p pins s σ H Q I (i _ _ _ q)⟩

section
variable {K : PySem.W.Frag} {ca : Str → Value} {W : WX}
/-- one part behind another one -/
theorem Rs.bind {B : Str → Hp → Prop} {H G : Hp} {Q : VK} {N : V → Hp → Prop} {r : R D} {f : D → R D} (h : Rs K B H G Q (r.bind f))
    (n : ∀ x v H1 G1, r = .ok x → Ext H G H1 G1 → Dp K G1 v x → Rs K B H1 G1 Q (f x) → N v H1) : Rs K B H G N r := by
  cases r with
  | ok x => exact fun v H1 G1 e p => n x v H1 G1 rfl e p (Rs.step h e)
  | exc c => exact h
  | bad => exact h
theorem RsT.bind {B : Str → Hp → Prop} {H G : Hp} {Q : Bool → Hp → Prop} {N : V → Hp → Prop} {r : R D} {f : D → R D} (h : RsT B H G Q (r.bind f))
    (n : ∀ x v H1 G1, r = .ok x → Ext H G H1 G1 → Dp K G1 v x → RsT B H1 G1 Q (f x) → N v H1) : Rs K B H G N r := by
  cases r with
  | ok x => exact fun v H1 G1 e p => n x v H1 G1 rfl e p (RsT.step h e)
  | exc c => exact h
  | bad => exact h
theorem RsA.bind {B : Str → Hp → Prop} {H G : Hp} {Q : VK} {N : List V → Hp → Prop} {r : R (List D)} {f : List D → R D} (h : Rs K B H G Q (r.bind f))
    (n : ∀ x v H1 G1, r = .ok x → Ext H G H1 G1 → DpAll K G1 v x → Rs K B H1 G1 Q (f x) → N v H1) : RsA K B H G N r := by
  cases r with
  | ok x => exact fun v H1 G1 e p => n x v H1 G1 rfl e p (Rs.step h e)
  | exc c => exact h
  | bad => exact h
theorem RsT.bindA {B : Str → Hp → Prop} {H G : Hp} {Q : Bool → Hp → Prop} {N : List V → Hp → Prop} {r : R (List D)} {f : List D → R D} (h : RsT B H G Q (r.bind f))
    (n : ∀ x v H1 G1, r = .ok x → Ext H G H1 G1 → DpAll K G1 v x → RsT B H1 G1 Q (f x) → N v H1) : RsA K B H G N r := by
  cases r with
  | ok x => exact fun v H1 G1 e p => n x v H1 G1 rfl e p (RsT.step h e)
  | exc c => exact h
  | bad => exact h
/-- a truth ahead -/
theorem Rs.bindT {B : Str → Hp → Prop} {H G : Hp} {Q : VK} {N : Bool → Hp → Prop} {r : R D} {f : D → R D} (h : Rs K B H G Q (r.bind f)) (nb : ∀ d, (∀ b, d ≠ .bool b) → f d = .bad)
    (n : ∀ b H1 G1, r = .ok (.bool b) → Ext H G H1 G1 → Rs K B H1 G1 Q (f (.bool b)) → N b H1) : RsT B H G N r := by
  cases r with
  | ok x =>
    have h0 : Rs K B H G Q (f x) := h
    have key : (∀ b, x ≠ .bool b) → False := fun q => by rw [nb x q] at h0; exact h0
    cases x with
    | bool b => exact fun H1 G1 e => n b H1 G1 rfl e (Rs.step h0 e)
    | _ => exact (key fun _ q => nomatch q).elim
  | exc c => exact h
  | bad => exact h
theorem RsT.bindT {B : Str → Hp → Prop} {H G : Hp} {Q : Bool → Hp → Prop} {N : Bool → Hp → Prop} {r : R D} {f : D → R D} (h : RsT B H G Q (r.bind f)) (nb : ∀ d, (∀ b, d ≠ .bool b) → f d = .bad)
    (n : ∀ b H1 G1, r = .ok (.bool b) → Ext H G H1 G1 → RsT B H1 G1 Q (f (.bool b)) → N b H1) : RsT B H G N r := by
  cases r with
  | ok x =>
    have h0 : RsT B H G Q (f x) := h
    have key : (∀ b, x ≠ .bool b) → False := fun q => by rw [nb x q] at h0; exact h0
    cases x with
    | bool b => exact fun H1 G1 e => n b H1 G1 rfl e (RsT.step h0 e)
    | _ => exact (key fun _ q => nomatch q).elim
  | exc c => exact h
  | bad => exact h
end
end Cw

set_option Elab.async false
set_option linter.all false
set_option maxRecDepth 100000
set_option maxHeartbeats 4000000
namespace Cw
open PySem PySem.Spec PyProof.Rows L2

/-! ### rules of the machine that are wanted wider -/
section
variable {X : Cx}
def rCatL (K : PySem.W.Frag) : R2 := fun x y H Q => ∃ l b xs zs, x = .ref l ∧ y = .ref b ∧ SqL K H l xs ∧ SqL K H b zs ∧ xs.length + zs.length ≤ sizeLine ∧ ∀ p, H p = none → Q (.ref p) (upd H p (.lst (xs ++ zs)))
theorem op_catL : OpR X (binaryOp .Add) (rCatL X.K) := by
  intro pins s σ H x y v u Q I rx ry h
  obtain ⟨l, b, xs, zs, rfl, rfl, hH, hB, hz, q⟩ := h
  cases rx
  cases ry
  obtain ⟨its, r, p1, z1⟩ := I.list hH
  obtain ⟨its2, r2, p2, z2⟩ := I.list hB
  obtain ⟨⟨cls, dd, data, sl⟩, n, ho, hc, _, hd⟩ := p1
  obtain ⟨⟨cls2, dd2, data2, sl2⟩, n2, ho2, hc2, _, hd2⟩ := p2
  simp only at hc hd hc2 hd2
  subst hc hd hc2 hd2
  have e1 := r.length
  have e2 := r2.length
  refine concat_meets ⟨_, ho, rfl⟩ ⟨_, ho2, rfl⟩ noFill_list_add seq_list_add PySem.F.slot_list_add PySem.F.entry_list_add (PySem.F.args_list_add_2 _ _)
    (list_addW l b its.toArray its2.toArray n n2 dd dd2 sl sl2 (by rw [List.size_toArray, List.size_toArray]; omega)) ⟨ho, ho2, ?_⟩
  have ea : its.toArray ++ its2.toArray = (its ++ its2).toArray := by simp
  rw [ea]
  exact ⟨.ref _, _, I.lnew (t' := s.toks) (r.append r2) (by rw [List.length_append]; omega), rfl, q _ I.fresh⟩
/-- () + t is t -/
def rCat0 (K : PySem.W.Frag) : R2 := fun x y H Q => ∃ a b ys, x = .ref a ∧ y = .ref b ∧ SqT K H a [] ∧ SqT K H b ys ∧ Q (.ref b) H
theorem op_cat0 : OpR X (binaryOp .Add) (rCat0 X.K) := by
  intro pins s σ H x y v u Q I rx ry h
  obtain ⟨a, b, ys, rfl, rfl, ha, hb, q⟩ := h
  cases rx
  cases ry
  obtain ⟨its, r1, p1, _⟩ := I.tuple ha
  obtain ⟨its2, r2, p2, _⟩ := I.tuple hb
  cases r1
  obtain ⟨⟨cls, dd, data, sl⟩, ho, hc, n, hd⟩ := id p1
  obtain ⟨⟨cls2, dd2, data2, sl2⟩, ho2, hc2, n2, hd2⟩ := id p2
  simp only at hc hd hc2 hd2
  subst hc hd hc2 hd2
  exact concat_meets ⟨_, ho, rfl⟩ ⟨_, ho2, rfl⟩ noFill_tuple_add seq_tuple_add PySem.F.slot_tuple_add PySem.F.entry_tuple_add (PySem.F.args_tuple_add_2 _ _)
    (tuple_addW0 a b _ its2.toArray n n2 dd dd2 sl sl2 (by simp)) ⟨ho, ho2, ⟨.ref b, H, I, rfl, q⟩⟩
/-- x.extend(list of any standing) -/
def rExtL (K : PySem.W.Frag) : V → List V → Hp → VK → Prop := fun x vs H Q => ∃ l b xs zs, x = .ref l ∧ vs = [.ref b] ∧ H l = some (.lst xs) ∧ H b = some (.lst zs) ∧ xs.length + zs.length ≤ sizeLine ∧ Q .non (upd H l (.lst (xs ++ zs)))

/-- what a division asks: room for the long one, nobody who looks on -/
structure Pyl (X : Cx) : Prop where
  room : X.A.depth + Builtin.pylongFrames < recursionLimit
  seer : X.base.NoSeer
  tree : X.prog.given.tree = none
  top : ∃ env l, X.stack = env :: l ∧ env.scope.isGenerator = false ∧ env.scope.isCoroutine = false ∧ env.builtins = builtinsNs ∧ env.globals = mainGlobals
theorem op_fdivA (h : Pyl X) : OpR X (binaryOp .FloorDiv) (rI (fun _ j => j ≠ 0) fun i j => .int (i.fdiv j)) := by
  intro pins s σ H x y v u Q I rx ry q
  obtain ⟨i, j, rfl, rfl, hc, q⟩ := q
  obtain ⟨t, rfl⟩ := rx
  obtain ⟨t', rfl⟩ := ry
  obtain ⟨env, l, e1, e2, e3, e4, e5⟩ := h.top
  refine floordiv_int hc ⟨.int _, H, I.tok _, ⟨_, rfl⟩, q⟩ (.inr (PylongRoom.of I.nolimit h.room ?_))
  exact SeerAt.of (h.seer.keeps I.bk) h.tree (by rw [I.ok.frames, e1]) e2 e3 e4 e5
theorem op_mulA : OpR X (binaryOp .Mult) (rI MulOk fun i j => .int (i * j)) := opI fun _ _ _ _ _ _ _ hc q => mul_int q hc
/-- a list of any standing times an int -/
def rRepL (K : PySem.W.Frag) : R2 := fun x y H Q => ∃ l k xs, x = .ref l ∧ y = .int k ∧ SqL K H l xs ∧ 0 ≤ k ∧ k ≤ 1000 ∧ xs.length ≤ 1000 ∧ ∀ p, H p = none → Q (.ref p) (upd H p (.lst (List.replicate k.toNat xs).flatten))
theorem op_repL : OpR X (binaryOp .Mult) (rRepL X.K) := by
  intro pins s σ H x y v u Q I rx ry h
  obtain ⟨l, k, xs, rfl, rfl, hH, h1, h2, hz, q⟩ := h
  cases rx
  obtain ⟨t, rfl⟩ := ry
  obtain ⟨its, r, p1, z1⟩ := I.list hH
  obtain ⟨⟨cls, dd, data, sl⟩, n, ho, hc, _, hd⟩ := p1
  simp only at hc hd
  subst hc hd
  have hl : its.length = xs.length := r.length.symm
  have hm : its.toArray.size * k.toNat ≤ 1000000 := by
    rw [List.size_toArray, hl]
    exact Nat.le_trans (Nat.mul_le_mul hz (show k.toNat ≤ 1000 by omega)) (by decide)
  refine wpAny_binaryOp_repeat_ref (T := "list") (U := "int") (by decide) ⟨_, ho, rfl⟩ (fun s' => typeIs_int s' k t) noFill_list_mul PySem.F.fills_int_mul PySem.F.slot_int_rmul repeat_list PySem.F.slot_int_index.lookup
    (call_meets PySem.F.slot_int_rmul (typeIs_int s k t) PySem.F.entry_int_rmul (PySem.F.args_int_rmul_2 _ _) (lm_int_rmul_list_any k t l its.toArray n dd sl)
      ⟨ho, rfl, ⟨_, ho, rfl⟩, call_meets PySem.F.slot_list_mul ⟨_, ho, rfl⟩ PySem.F.entry_list_mul (PySem.F.args_list_mul_2 _ _)
        (lm_list_mul_any l its.toArray n dd sl k t (by simp [Builtin.List.listFitsIndex]; omega) (by omega) (by simp only [Builtin.List.listTooLong, sizeLine_eq]; simp; simp at hm; omega))
        ⟨ho, ?_⟩⟩)
  rw [listMul_foldl_if]
  refine ⟨.ref _, _, I.lnew (t' := s.toks) (r.rep k.toNat) ?_, rfl, q _ I.fresh⟩
  rw [PyProof.Rows.lm_len_rep_flat, sizeLine_eq]
  exact Nat.le_trans (Nat.mul_le_mul (show k.toNat ≤ 1000 by omega) hz) (by decide)
end
end Cw

set_option Elab.async false
set_option linter.all false
set_option maxRecDepth 100000
set_option maxHeartbeats 4000000
/-! ### enumerate over a tuple -/
namespace PySem
open PySem.Sem (wp)
open AutoSeq1 (wpAny_loadPart')
theorem cw_drawsT {prog : Program} {w : World} {A : Around} (hh : A.handled = none) (it l : Addr) (hne : l ≠ it) (items : Array Value) :
    Draws prog w A it [it, l] items.size (fun i v => items[i]? = some v) (fun i h => h.IsTupleIter it l i ∧ h.IsTuple l items) where
  live := fun _ _ st => let ⟨o, ho, _⟩ := st.1; ⟨o, ho⟩
  frame := fun _ _ _ st hk => ⟨st.1.at fun o e => hk it (by simp) o e, by
    obtain ⟨o, ho, r⟩ := st.2
    exact ⟨o, hk l (by simp) o ho, r⟩⟩
  item := fun i s Q E hi st hQ => by
    refine RZ.nextOf_tuple_item st.1 st.2 (x := items[i]) (by simp [hi]) fun h' hit' hs' => ?_
    refine hQ _ h' s.toks (by simp [hi]) ⟨hit', ?_⟩ hs'
    obtain ⟨o, ho, r⟩ := st.2
    exact ⟨o, hs'.extBut l o hne ho, r⟩
  done := fun s Q E st hE => RZ.nextOf_tuple_end hh st.1 st.2 (by simp) hE
theorem cw_drawsE {prog : Program} {w : World} {A : Around} (hh : A.handled = none) (it l : Addr) (items : Array Value) (n : Nat) (hn : items[n]? = none) :
    Draws prog w A it [it, l] n (fun _ _ => False) (fun i h => i = n ∧ h.IsTupleIter it l i ∧ h.IsTuple l items) where
  live := fun _ _ st => let ⟨o, ho, _⟩ := st.2.1; ⟨o, ho⟩
  frame := fun _ _ _ st hk => ⟨st.1, st.2.1.at fun o e => hk it (by simp) o e, by
    obtain ⟨o, ho, r⟩ := st.2.2
    exact ⟨o, hk l (by simp) o ho, r⟩⟩
  item := fun i s Q E hi st hQ => absurd st.1 (Nat.ne_of_lt hi)
  done := fun s Q E st hE => RZ.nextOf_tuple_end hh st.2.1 st.2.2 hn hE
theorem cw_enumNewT (l : Addr) (items : Array Value) (n : Nat) (dct : Option Addr) (sl : Array (Option Value)) :
    Meets (Builtin.«enumerate.__new__» ⟨[.type "enumerate", .ref l], []⟩) (fun _ R s => s.heap.get? l = some { cls := .type "tuple", dict := dct, data := .seq items n, slots := sl } ∧
      R (.ok (.ret (.ref (s.heap.push { cls := .type "tuple_iterator", data := .fields #[.ref l, .int 0 0] }).objs.size)))
        { s with heap := (s.heap.push { cls := .type "tuple_iterator", data := .fields #[.ref l, .int 0 0] }).push { cls := .type "enumerate", data := .fields #[.none, .bool false, .ref s.heap.objs.size, rawInt 0, .none, .none] } }) :=
  .of_wp fun prog w A R s h => by
    obtain ⟨hp, g, d, tk, os⟩ := s; obtain ⟨hl, h⟩ := h
    have hsub := sub_enumerate
    have hL : Heap.IsTuple (Shared.heap ⟨hp, g, d, tk, os⟩) l items := ⟨_, hl, rfl, n, rfl⟩
    wp_walk using wpAny_loadPart' hl
    refine wpAny_stack_any fun st => wpAny_pure ?_
    split
    · rename_i c _ _ _ _ _
      cases (c == Value.type "enumerate")
      · wp_walk using wpAny_loadPart' hl, wpAny_pyIter_tuple hL
        exact ⟨_, rfl, h⟩
      · wp_walk using wpAny_loadPart' hl, wpAny_pyIter_tuple hL
        exact ⟨_, rfl, h⟩
    · wp_walk using wpAny_loadPart' hl, wpAny_pyIter_tuple hL
      exact ⟨_, rfl, h⟩
theorem cw_callEnumT {prog : Program} {w : World} {A : Around} {E : Value → Shared → Prop} {s : Shared} {l : Addr} {items : Array Value} {Q : Value → Shared → Prop} (hL : s.heap.IsTuple l items)
    (h : ∀ h', IsEnum h' (s.heap.objs.size + 1) s.heap.objs.size 0 .none → h'.IsTupleIter s.heap.objs.size l 0 → h'.objs.size = s.heap.objs.size + 2 →
      (∀ b o, s.heap.get? b = some o → h'.get? b = some o) → Q (.ref (s.heap.objs.size + 1)) { s with heap := h' }) :
    wpAny (model prog w) A (call (.type "enumerate") [.ref l]) Q E s := by
  obtain ⟨⟨c, dct, dt, sl⟩, hl, hc, n, hd⟩ := hL
  replace hc : c = .type "tuple" := hc
  replace hd : dt = .seq items n := hd
  subst hc hd
  refine callType_new F.called_enumerate (by decide) (F.typeCall_enumerate_1 _) (F.newCall_enumerate_1 _) (fun obj => F.args_object_init_2 obj _) F.entry_enumerate_new
    (cw_enumNewT l items n dct sl) ⟨hl, ?_⟩
  have hz : (s.heap.push { cls := .type "tuple_iterator", data := .fields #[.ref l, .int 0 0] }).objs.size = s.heap.objs.size + 1 := Heap.size_push ..
  show _ ∧ _
  rw [hz]
  have he : IsEnum ((s.heap.push { cls := .type "tuple_iterator", data := .fields #[.ref l, .int 0 0] }).push
      { cls := .type "enumerate", data := .fields #[.none, .bool false, .ref s.heap.objs.size, rawInt 0, .none, .none] }) (s.heap.objs.size + 1) s.heap.objs.size 0 .none := by
    have := Heap.get?_push_size (s.heap.push { cls := .type "tuple_iterator", data := .fields #[.ref l, .int 0 0] })
      (o := { cls := .type "enumerate", data := .fields #[.none, .bool false, .ref s.heap.objs.size, rawInt 0, .none, .none] }) rfl
    rw [hz] at this; exact this
  refine ⟨⟨_, he, rfl⟩, h _ he ⟨_, Heap.get?_push_of_some _ (Heap.get?_push_size _ rfl), rfl, rfl⟩ (by rw [Heap.size_push, hz]) fun b o x => Heap.get?_push_of_some _ (Heap.get?_push_of_some _ x)⟩
end PySem
namespace Cw
open PySem PySem.Spec PyProof.Rows L2
def IteT (K : PySem.W.Frag) (a : Addr) : L2.It :=
  ⟨fun i H => ∃ (xs : List V) (x : V), SqT K H a xs ∧ xs[i]? = some x, fun i H v H' => ∃ T x, v = .ref T ∧ H T = none ∧ H' = upd H T (.tup [.int (i : Nat), x]) ∧ ∀ xs, SqT K H a xs → xs[i]? = some x, fun i H => ∃ xs : List V, SqT K H a xs ∧ xs.length ≤ i⟩
theorem turn_enumT {P : Program} {w : World} {K : PySem.W.Frag} {elts : List Expr} {kk : Nat} {tpos : Pos} (a e it : Addr) (hae : a ≠ e) (hai : a ≠ it) :
    Turn P w K (.Tuple elts kk tpos) (IteT K a) [e, it] e (fun i h => (∃ old, IsEnum h e it ((i : Nat) : Int) old) ∧ h.IsTupleIter it a i ∧ e ≠ it) where
  mem := by simp
  obj := fun i h st b hb => by
    obtain ⟨⟨old, he⟩, ⟨o, ho, hc, hd⟩, _⟩ := st
    have e' : b = e ∨ b = it := by simpa using hb
    rcases e' with z | z
    · rw [z]; exact ⟨_, he, fun v q => nomatch q⟩
    · rw [z]; exact ⟨o, ho, fun v q => by rw [hd] at q; cases q⟩
  keep := fun i h h' st k => let ⟨⟨old, he⟩, hi, hne⟩ := st; ⟨⟨old, k e (by simp) _ he⟩, hi.at fun o q => k it (by simp) o q, hne⟩
  item := by
    intro X hP hw hK hc i pins s σ H E I hf st hg
    subst hP hw hK
    obtain ⟨⟨old, he⟩, hit, hne⟩ := st
    obtain ⟨xs, x, hq, hx⟩ := hg
    obtain ⟨its, rv, p, hz⟩ := I.tuple hq
    obtain ⟨u, hu, ru⟩ := rv.get hx
    have hel : e < s.heap.objs.size := Heap.lt_size he
    have hil : it < s.heap.objs.size := by obtain ⟨_, q, _⟩ := hit; exact Heap.lt_size q
    have hlt : i < its.toArray.size := by
      have := List.getElem?_eq_some_iff.mp hu
      obtain ⟨h1, _⟩ := this
      simpa using h1
    refine wpAny_pyNext_enum_itemD (cw_drawsT (A := X.A.in1) (show X.A.in1.handled = none from I.ok.hd hc) it a hai its.toArray) he ⟨hit, p⟩ hlt hne (by simp [hne, Ne.symm hae]) fun x' h' tk hPx ho hit' hT hsz hk => ?_
    have ex : x' = u := by
      have h1 : its.toArray[i]? = some u := by simpa using hu
      rw [h1] at hPx
      exact (Option.some.inj hPx).symm
    subst ex
    refine ⟨_, rfl, wpAny_letOwnedTupleGo_enum (s := { s with heap := h', toks := tk + 1 }) ho fun h'' he' sb => ?_⟩
    have hT2 : h''.get? s.heap.objs.size = some { cls := .type "tuple", data := .seq #[.int i tk, x'] } := (sb.2 _ (Nat.ne_of_gt hel)).trans hT
    have new : ObjOk X.prog X.w (upd H s.heap.objs.size (.tup [.int (i : Nat), x])) h'' s.heap.objs.size (.tup [.int (i : Nat), x]) :=
      ⟨by show 2 ≤ sizeLine; decide, [.int i tk, x'], .cons ⟨_, rfl⟩ (.cons ru .nil), ⟨_, hT2, rfl, _, rfl⟩⟩
    have I1 : Inv X pins σ (upd H s.heap.objs.size (.tup [.int (i : Nat), x])) { s with heap := h'', toks := tk + 1 } :=
      I.turnedNew (ch := [e, it]) (fun b ob hb q => (sb.2 b (fun z => hb (by simp [z]))).trans (hk b ob (fun z => hb (by simp [z])) (fun z => hb (by simp [z])) q)) hf (Nat.le_refl _) new
    refine ⟨.ref s.heap.objs.size, _, I1, rfl, ⟨_, x, rfl, I.hok.fresh (Nat.le_refl _), rfl, fun ys hy => by rw [I.tuple_inj hy hq]; exact hx⟩, ⟨⟨x', ?_⟩, hit'.1.at fun o q => (sb.2 it (Ne.symm hne)).trans q, hne⟩, fun b hb => ?_⟩
    · have e1 : ((i + 1 : Nat) : Int) = (i : Int) + 1 := by omega
      rw [e1]; exact he'
    · have hb' : b < s.heap.objs.size := by
        have e' : b = e ∨ b = it := by simpa using hb
        rcases e' with z | z
        · rw [z]; exact hel
        · rw [z]; exact hil
      rw [upd_ne (Nat.ne_of_lt hb')]
      exact (hf b hb).1
  done := by
    intro X hP hw hK hc i pins s σ H E I hf st hg
    subst hP hw hK
    obtain ⟨⟨old, he⟩, hit, hne⟩ := st
    obtain ⟨xs, hq, hx⟩ := hg
    obtain ⟨its, rv, p, hz⟩ := I.tuple hq
    obtain ⟨f0, f1, f2, f3, f4, f5⟩ := hf it (by simp)
    have hl := rv.length
    exact wpAny_pyNext_enum_endD (cw_drawsE (A := X.A.in1) (show X.A.in1.handled = none from I.ok.hd hc) it a its.toArray i (by simp; omega)) he ⟨rfl, hit, p⟩ fun h' eb => ⟨rfl, I.turned (t' := s.toks) (fun b o hb q => eb b o hb q) f0 f1 f3 f4 f5⟩
  self := fun A i s Q E st h => let ⟨⟨_, he⟩, _⟩ := st; wpAny_pyIter_enum he h
def iEnumA (K : PySem.W.Frag) (ta : TA) : TI := fun σ H R => ta σ H fun vs H1 => ∃ a xs, vs = [.ref a] ∧ ((SqL K H1 a xs ∧ R (Ite K a) H1) ∨ (SqT K H1 a xs ∧ R (IteT K a) H1))
theorem pi_enumA {X : Cx} {e : Expr} {ta : TA} {p pos tpos : Pos} {elts : List Expr} {kk : Nat} (hg : Gl X "enumerate") (hm : X.mg "enumerate" = none) (ha : PA X [e] ta) (hs : starEach [e] X.env = [(false, eval e X.env)] := by rfl) :
    PI X (.Tuple elts kk tpos) (.Call (.Name "enumerate" p) [e] [] pos) (iEnumA X.K ta) := by
  refine ⟨fun pins s σ H R I h => ?_⟩
  refine Call_ (ld_blt I hg hm boot_enumerate (PyProof.Rows.callWith_type1 (thn (ha.run pos pins s σ H _ I h) fun us s1 ⟨vs, H1, I1, r1, q1⟩ => ?_) hs rfl))
  obtain ⟨a, xs, ex, q1⟩ := q1
  subst ex
  cases r1 with
  | cons r rr =>
    cases rr
    cases r
    rcases q1 with ⟨hq, q⟩ | ⟨hq, q⟩
    · obtain ⟨its, rv, p', hz⟩ := I1.list hq
      refine call_enumerate_list p'.isList fun h' he hit hsz hk => wpAny_pyIter_enum he ?_
      have I2 : Inv X pins σ H1 { s1 with heap := h' } := I1.kept (t' := s1.toks) hk
      refine ⟨s1.heap.objs.size + 1, [s1.heap.objs.size + 1, s1.heap.objs.size], _, _, H1, rfl, I2, turn_enum a (s1.heap.objs.size + 1) s1.heap.objs.size, ⟨⟨.none, he⟩, hit, Nat.succ_ne_self _⟩, fun b hb => ?_, q⟩
      have e' : b = s1.heap.objs.size + 1 ∨ b = s1.heap.objs.size := by simpa using hb
      have hle : s1.heap.objs.size ≤ b := by
        rcases e' with z | z
        · rw [z]; exact Nat.le_add_right _ _
        · rw [z]; exact Nat.le_refl _
      exact I1.fpOk hle (I1.hok.fresh hle)
    · obtain ⟨its, rv, p', hz⟩ := I1.tuple hq
      obtain ⟨ot, hot, _⟩ := id p'
      have hlt : a < s1.heap.objs.size := Heap.lt_size hot
      refine cw_callEnumT (show s1.heap.IsTuple a its.toArray from p') fun h' he hit hsz hk => wpAny_pyIter_enum he ?_
      have I2 : Inv X pins σ H1 { s1 with heap := h' } := I1.kept (t' := s1.toks) hk
      refine ⟨s1.heap.objs.size + 1, [s1.heap.objs.size + 1, s1.heap.objs.size], _, _, H1, rfl, I2, turn_enumT a (s1.heap.objs.size + 1) s1.heap.objs.size (Nat.ne_of_lt (Nat.lt_succ_of_lt hlt)) (Nat.ne_of_lt hlt), ⟨⟨.none, he⟩, hit, Nat.succ_ne_self _⟩, fun b hb => ?_, q⟩
      have e' : b = s1.heap.objs.size + 1 ∨ b = s1.heap.objs.size := by simpa using hb
      have hle : s1.heap.objs.size ≤ b := by
        rcases e' with z | z
        · rw [z]; exact Nat.le_add_right _ _
        · rw [z]; exact Nat.le_refl _
      exact I1.fpOk hle (I1.hok.fresh hle)
end Cw

set_option Elab.async false
set_option linter.all false
set_option maxRecDepth 100000
set_option maxHeartbeats 4000000
/-! A comprehension whose element may let an exception out. -/
namespace Cw
open PySem PySem.Spec PyProof.Rows L2

section
variable {M : Model} {A : Around} {E : Value → Shared → Prop} {s : Shared} {Z : Obj → Prop} {B : Heap} {env : Env} {l : List Env} {L a : Addr}
theorem note_eq {u : Value} {c d : Env} (h : c.frame = d.frame) : noteFrame u c = noteFrame u d := by
  unfold noteFrame PySem.frameOf
  rw [h]
/-- noted by a frame that has not noted it yet -/
theorem note_other {fl : Value} {Q : Unit → Shared → Prop} (st : PXN.Steady1 Z) (af : A.frames = some (env :: l)) (ef : env.frame = some L) (ne : (fl == rawInt L) = false) (b1 : B.StaysIn s.heap) (b2 : B.get? a = none) (b3 : s.heap.FunFrames B (env :: l)) (tr : HandSPX.TracedZ s.heap B a Z fl)
    (q : ∀ g, HandSPX.HeldZ B (env :: l) a Z L g → s.heap.UpToSlots g → Q () { s with heap := g }) : wpAny M A (noteFrame (.ref a) env) Q E s := by
  obtain ⟨oe, vs, T, oT, ts, t1, t2, t3, t4, t5, t6, t7, t8, t9⟩ := tr
  have z1 := (Array.getElem?_eq_some_iff.mp t4).1
  have z3 := (Array.getElem?_eq_some_iff.mp t9).1
  unfold noteFrame
  simp only [ef]
  refine wpAny_bind (wpAny_field t1 t3 t4 ?_)
  rw [if_pos (by simp : (Value.ref T != Value.none) = true)]
  refine wpAny_bind (wpAny_field t7 t8 t9 ?_)
  rw [ne, if_neg Bool.false_ne_true]
  refine wpAny_bind (wpAny_setField t7 t8 z3 ?_)
  have ot : ∀ p, p ≠ T → (s.heap.update T (Obj.mapFields (·.setIfInBounds 3 Value.none))).get? p = s.heap.get? p := fun p hp => Heap.get?_update_other _ _ fun e => hp e.symm
  have nr : ∀ p o, s.heap.get? p = some o → (∀ ws, o.data ≠ .fields ws) → p ≠ T := fun p o hp hn e => by
    rw [e, t7] at hp
    cases hp
    exact hn ts t8
  refine PXN.wpAny_entryZ st af (b3.of_keeps fun p o hp hn => ⟨o, (ot p (nr p o hp hn)).trans hp, rfl⟩) ef ((ot a fun e => t6 e.symm).trans t1)
    (fun p o hp => (ot p fun e => by rw [e, t5] at hp; cases hp).trans (b1 p o hp)) b2 t3 z1 t2 fun g n => ?_
  obtain ⟨n1, n2, n3, n4⟩ := n
  exact q g ⟨n1, b2, n2, n3⟩ fun p o hp hn => n4 p o ((ot p (nr p o hp hn)).trans hp) hn
/-- in the air of a block, then noted by the def's frame -/
theorem note_sky {C : Addr} {Q : Unit → Shared → Prop} (st : PXN.Steady1 Z) (af : A.frames = some (env :: l)) (ef : env.frame = some L) (ne : C ≠ L) (x : Sky B (env :: l) a Z C s.heap)
    (q : ∀ g, HandSPX.HeldZ B (env :: l) a Z L g → s.heap.UpToSlots g → Q () { s with heap := g }) : wpAny M A (noteFrame (.ref a) env) Q E s := by
  rcases x with ⟨x1, x2, x3, oe, vs, x4, x5, x6, x7⟩ | ⟨x1, x2, x3, x4⟩ | ⟨x1, x2, x3, x4⟩
  · exact PXN.look_newZ st af x3 ef x4 x1 x2 x6 x7 x5 q
  · exact note_other st af ef (by simp [rawInt]) x1 x2 x3 x4 q
  · refine note_other st af ef ?_ x1 x2 x3 x4 q
    cases e : (rawInt C == rawInt L) with
    | false => rfl
    | true =>
      exfalso
      apply ne
      have := eq_of_beq e
      unfold rawInt at this
      injection this with h1
      first | exact h1 | exact_mod_cast h1 | (injection h1)
end

section
variable {M : Model} {A : Around} {E : Value → Shared → Prop} {s : Shared} {env : Env}
/-- what is asked behind the block of a comprehension -/
def postX (M : Model) (A : Around) (E : Value → Shared → Prop) (use : Option (Value → Sem Unit)) (Q : Value → Shared → Prop) (acc : Value) (c : Env) (r : Result) (t : Shared) : Prop :=
  match r, use with
  | .ok _, none => ∃ m, t.heap.Ns c.locals m ∧ ∀ g, Heap.SameBut c.locals t.heap g → Q acc { t with heap := g }
  | .ok _, some u => wpAny M A (u acc) (fun _ t2 => ∃ m, t2.heap.Ns c.locals m ∧ ∀ g, Heap.SameBut c.locals t2.heap g → Q .none { t2 with heap := g }) E t
  | .error x, _ => ∃ m, t.heap.Ns c.locals m ∧ ∀ g, Heap.SameBut c.locals t.heap g → wpAny M A (passOn "comprehension.variables-let-go" x c : Sem Value) (fun _ _ => False) E { t with heap := g }
theorem comp_any {e : Expr} {scope : Scope} {pos : Pos} {na fi : Sem Value} {g : Comprehension} {gs : List Comprehension} {cl : List (Str × Addr)} {use : Option (Value → Sem Unit)} {Q : Value → Shared → Prop}
    (c1 : clausesOf e = g :: gs) (c2 : ∀ x, foldedSetIterable g.iter env x = pure x) (c3 : closureFor scope env = pure cl) (c4 : scope.kind = .function) (c5 : ∀ x ∈ scope.names, x.2 = .local → scope.names.lookup x.1 = some .local)
    (h : wpAny M A fi (fun x t1 => wpAny M A (pyIter x) (fun it t2 => wpAny M A na (fun acc t3 => wpAny M A (newFunctionEnv scope env.globals cl [] env.qual none .none (some env)) (fun c t4 =>
      codeAny M A (.compStart e 0 it acc { c with scope := relabel scope env }) (postX M A E use Q acc { c with scope := relabel scope env }) t4) E t3) E t2) E t1) E s) :
    wpAny M A (comprehension e scope env pos na false fi use) Q E s := by
  unfold comprehension
  rw [c3, c1]
  refine wpAny_bind (wpAny_mono h (fun x t1 k1 => wpAny_bind (wpAny_standAt (wpAny_bind (wpAny_of_eq (c2 x) (wpAny_bind (wpAny_holding (wpAny_mono k1 (fun it t2 k2 => wpAny_standIf (wpAny_bind (wpAny_mono k2
    (fun acc t3 k3 => wpAny_bind (wpAny_pure (wpAny_bind (wpAny_mono k3 (fun c t4 k4 => ?_) fun _ _ y => y)))) fun _ _ y => y))) fun _ _ y => y))))))) fun _ _ y => y)
  dsimp only
  have v1 : ∀ x ∈ (scope.names.filter fun x => (x.2 == .local || x.2 == .cell) && x.1 != (".0" : Str)).reverse, x.2 = .local → Env.kindOf { c with scope := relabel scope env } x.1 = some .local :=
    fun x hx hl => lookup_relabel_local (c5 x (List.mem_filter.mp (List.mem_reverse.mp hx)).1 hl)
  have v2 : ∀ x ∈ (scope.names.filter fun x => (x.2 == .local || x.2 == .cell) && x.1 != (".0" : Str)).reverse.drop 1 ++ (scope.names.filter fun x => (x.2 == .local || x.2 == .cell) && x.1 != (".0" : Str)).reverse.take 1, x.2 = .local → Env.kindOf { c with scope := relabel scope env } x.1 = some .local :=
    fun x hx hl => (List.mem_append.mp hx).elim (fun z => v1 x (List.mem_of_mem_drop z) hl) fun z => v1 x (List.mem_of_mem_take z) hl
  refine wpAny_holding (wpAny_bind (wpAny_attempt (wpAny_holding (wpAny_run (codeAny_mono k4 fun r t kr => ?_)))))
  cases r with
  | ok f =>
    cases use with
    | none =>
      obtain ⟨m, n, q⟩ := kr
      exact wpAny_bind (wpAny_holding (wpAny_comp_letGo (cenv := { c with scope := relabel scope env }) c4 _ t m v1 n fun g _ _ sb => wpAny_pure (q g sb)))
    | some u =>
      refine wpAny_bind (wpAny_rule (wpAny_bind (wpAny_holding (wpAny_mono kr (fun _ t2 kq => ?_) fun _ _ y => y))))
      obtain ⟨m, n, q⟩ := kq
      exact wpAny_bind (wpAny_comp_letGo (cenv := { c with scope := relabel scope env }) c4 _ t2 m v2 n fun g _ _ sb => wpAny_pure (q g sb))
  | error x =>
    have kr2 : ∃ m, t.heap.Ns c.locals m ∧ ∀ g, Heap.SameBut c.locals t.heap g → wpAny M A (passOn "comprehension.variables-let-go" x { c with scope := relabel scope env } : Sem Value) (fun _ _ => False) E { t with heap := g } := by cases use <;> exact kr
    obtain ⟨m, n, q⟩ := kr2
    exact wpAny_bind (wpAny_holding (wpAny_comp_letGo (cenv := { c with scope := relabel scope env }) c4 _ t m v1 n fun g _ _ sb => wpAny_mono (q g sb) (fun _ _ f => f.elim) fun _ _ y => y))
end

/-! ### the block -/
theorem ns_up {h g : Heap} {C : Addr} {m : Str → Option Value} (u : h.UpToSlots g) (n : h.Ns C m) : g.Ns C m := by
  obtain ⟨o, es, ep, n1, n2, n3⟩ := n
  obtain ⟨sl, e⟩ := u C o n1 fun vs z => by rw [n2] at z; cases z
  exact ⟨_, es, ep, e, n2, n3⟩
theorem ff_sub {h h' B B' : Heap} (hB : ∀ b, B.get? b = none → B'.get? b = none) : ∀ {l : List Env}, (∀ b ∈ l.filterMap (·.frame), h'.get? b = h.get? b) → h.FunFrames B l → h'.FunFrames B' l
  | [], _, _ => trivial
  | c :: l, k, ⟨x1, ⟨L, o, y1, y2, y3, y4⟩, x3⟩ => by
    have m : L ∈ (c :: l).filterMap (·.frame) := List.mem_filterMap.mpr ⟨c, List.mem_cons_self, y1⟩
    refine ⟨x1, ⟨L, o, y1, hB L y2, (k L m).trans y3, y4⟩, ff_sub hB (fun b hb => k b ?_) x3⟩
    obtain ⟨e, e1, e2⟩ := List.mem_filterMap.mp hb
    exact List.mem_filterMap.mpr ⟨e, List.mem_cons_of_mem _ e1, e2⟩
abbrev blkX (X : Cx) (s : Shared) (H : Hp) (scope : Scope) (ce : Env) (fp : List Addr) (xe : Value → Shared → Prop) : Cx := { X.blk s H scope ce fp with xe := xe }
section
variable {X : Cx} {W : WX}
/-- an exception out of the block: it is in the def's air -/
theorem air_out {pins : List (Addr × Obj)} {σ : L2.St} {H3 : Hp} {s3 t : Shared} {scope : Scope} {ce : Env} {fp : List Addr} {xe : Value → Shared → Prop} {use : Option (Value → Sem Unit)} {Qf : Value → Shared → Prop} {D u : Value}
    (tk : L2N.Takes X W) (hs : X.stack = X.env :: X.outer) (hf : X.env.frame = some X.env.locals) (I3 : Inv X pins σ H3 s3) (f3 : ∀ b ∈ fp, FpOk X pins H3 b) (cL : ce.locals = s3.heap.objs.size) (cF : ce.frame = X.env.frame)
    (x : L2N.XE (blkX X s3 H3 scope ce fp xe) (fun cls d _ H => W cls d σ H) u t) : notedBy (model X.prog X.w) X.A ce (fun e t' => postX (model X.prog X.w) X.A X.xe use Qf D ce (.error e) t') u t := by
  obtain ⟨a, B, sI, pins', σ', H', cls, d, rfl, J, nb, up, sky, na, os, ag, w⟩ := x
  have af : X.A.frames = some (X.env :: X.outer) := by rw [I3.ok.frames, hs]
  have cne : ∀ b ∈ frs X.stack, b ≠ s3.heap.objs.size := fun b hb z => by
    obtain ⟨_, o, o1, _⟩ := I3.stack.mem hb
    rw [z] at o1
    exact Nat.lt_irrefl _ (Heap.lt_size o1)
  have cl : ce.locals ≠ X.env.locals := by
    rw [cL]
    exact Nat.ne_of_gt I3.lt
  obtain ⟨m, n, _⟩ := J.loc
  have n : sI.heap.Ns ce.locals m := n
  have nC : H' s3.heap.objs.size = none := by
    have z : H' ce.locals = none := J.free
    rw [cL] at z
    exact z
  have I7 : Inv X pins σ H' sI := I3.call' (ch := fp) J.os J.base J.hok J.bare fun b hb => ⟨(f3 b hb).2.2.2.1, (f3 b hb).2.1, (f3 b hb).2.2.2.2.1, (f3 b hb).2.2.2.2.2⟩
  obtain ⟨p0, p1, p2, p3, p4, p5⟩ := I3.fpOk (Nat.le_refl s3.heap.objs.size) nC
  have I8 := I7.turned (t' := sI.toks) (h' := sI.heap.hide s3.heap.objs.size) (fun b o hb e => (Heap.hide_ne _ hb).trans e) p0 p1 p3 p4 p5
  unfold notedBy
  rw [note_eq cF]
  have sky' : Sky B (X.env :: X.outer) a (L2N.Zn cls d) ce.locals t.heap := by rw [← hs]; exact sky
  refine note_sky L2N.Zn.steady af hf cl sky' fun g held up2 => ?_
  have ng : g.Ns ce.locals m := ns_up (up.trans up2) n
  have key : ∀ g2, Heap.SameBut ce.locals g g2 → wpAny (model X.prog X.w) X.A (passOn "comprehension.variables-let-go" (.ref a) ce : Sem Value) (fun _ _ => False) X.xe { t with heap := g2 } := fun g2 sb => by
    obtain ⟨k1, k2, k3, oe, vs, T, oT, ts, t1, t2, t3, t4, t5, t6, t7, t8, t9⟩ := held
    obtain ⟨od, es, ep, d1, d2, _⟩ := ng
    have aC : a ≠ ce.locals := fun z => by
      rw [z, d1] at t1
      cases t1
      rw [d2] at t3
      cases t3
    have tC : T ≠ ce.locals := fun z => by
      rw [z, d1] at t7
      cases t7
      rw [d2] at t8
      cases t8
    have b1 : (B.hide ce.locals).StaysIn g2 := fun b o e => by
      have hb : b ≠ ce.locals := fun z => by rw [z, Heap.hide_self] at e; cases e
      exact (sb.2 b hb).trans (k1 b o (Heap.of_hide e))
    have bn : ∀ b, B.get? b = none → (B.hide ce.locals).get? b = none := fun b e => by
      cases q : (B.hide ce.locals).get? b with
      | none => rfl
      | some o => rw [Heap.of_hide q] at e; cases e
    have b3 : g2.FunFrames (B.hide ce.locals) (X.env :: X.outer) := by
      refine ff_sub bn (fun b hb => sb.2 b ?_) k3
      rw [cL]
      exact cne b (by rw [hs]; exact hb)
    have b4 : HandSPX.TracedZ g2 (B.hide ce.locals) a (L2N.Zn cls d) (rawInt X.env.locals) := ⟨oe, vs, T, oT, ts, (sb.2 a aC).trans t1, t2, t3, t4, bn T t5, t6, (sb.2 T tC).trans t7, t8, t9⟩
    unfold PySem.passOn
    refine wpAny_bind (wpAny_field (s := { t with heap := g2 }) ((sb.2 a aC).trans t1) t3 t4 ?_)
    rw [if_neg (by simp : ¬ ((Value.ref T == Value.none) = true))]
    have fin : wpAny (model X.prog X.w) X.A (setFlight (.ref a) ce.frame) (fun _ t4 => wpAny (model X.prog X.w) X.A (throw (.ref a) : Sem Value) (fun _ _ => False) X.xe t4) X.xe { t with heap := g2 } := by
      rw [cF, hf]
      refine HandSPX.setFlight_anyZ (s := { t with heap := g2 }) b1 b3 b4 fun g3 w1 w2 w3 w4 => wpAny_throw (tk _ _ ?_)
      refine ⟨a, B.hide ce.locals, _, pins, σ, H', cls, d, rfl, I8, fun b o e hb => ?_, fun b o e hn => ?_, .inr (.inr (by rw [hs]; exact ⟨w1, bn a k2, w2, w3⟩)), na, os, ag, w⟩
      · have hb2 : b ≠ ce.locals := fun z => by rw [z, cL] at e; rw [show (sI.heap.hide s3.heap.objs.size).get? s3.heap.objs.size = none from Heap.hide_self _ _] at e; cases e
        exact (Heap.hide_ne _ hb2).trans (nb b o (Heap.of_hide e) hb)
      · have hb2 : b ≠ ce.locals := fun z => by rw [z, cL] at e; rw [show (sI.heap.hide s3.heap.objs.size).get? s3.heap.objs.size = none from Heap.hide_self _ _] at e; cases e
        obtain ⟨sl, q1⟩ := (up.trans up2) b o (Heap.of_hide e) hn
        obtain ⟨sl2, q2⟩ := w4 b _ ((sb.2 b hb2).trans q1) hn
        exact ⟨sl2, q2⟩
    first
      | exact wpAny_bind (wpAny_pure (wpAny_bind fin))
      | exact wpAny_bind fin
  cases use with
  | none => exact ⟨m, ng, key⟩
  | some u => exact ⟨m, ng, key⟩
end

section
variable {X : Cx} {W : WX}
/-- a comprehension: D the new list, V by the turn and a measure, N what a turn is to reach; what is raised goes to W at the def's slots -/
def tLcX (wi : TI) (g : TG) (tt : TT) (te : WX → TE) (vs : List Nat) (W : WX) : TE := fun σ H Q => wi σ H fun J H1 => ∀ D, H1 D = none → ∃ V : Nat → Nat → Hp → Prop, (∃ m, V 0 m (upd H1 D (.lst []))) ∧ ∀ i m H, V i m H →
  (J.stop i H ∧ Q (.ref D) H) ∨ (J.go i H ∧ ∃ N : Hp → Prop, (∀ H', N H' → ∃ k, k < m ∧ V (i + 1) k H') ∧ ∀ x H', J.yld i H x H' → g x (L2.wipe σ vs) H' fun τ H2 => L2.wipe τ vs = L2.wipe σ vs ∧ tt τ H2 fun b H3 =>
    if b = true then te (fun cls d _ H => W cls d σ H) τ H3 fun y H4 => ∃ acc, H4 D = some (.lst acc) ∧ acc.length < sizeLine ∧ N (upd H4 D (.lst (acc ++ [y]))) else N H3)
theorem lc_coreX {pins : List (Addr × Obj)} {s : Shared} {σ : L2.St} {H : Hp} {Q : VK} {elt tg iter : Expr} {ifs : List Expr} {scope : Scope} {own : List (Str × Nat)} {pos pos' : Pos} {wi : TI} {g : TG} {tt : TT} {te : WX → TE} {use : Option (Value → Sem Unit)} {Qf : Value → Shared → Prop}
    (hc : X.calm = true) (hN : X.N.Nodup) (tk : L2N.Takes X W) (hst : X.stack = X.env :: X.outer) (hfr : X.env.frame = some X.env.locals) (I : Inv X pins σ H s) (hi : PI X tg iter wi) (ok : BlkOk X.N X.env.scope scope own)
    (hg : ∀ (s : Shared) (H : Hp) (C : Addr) (cl : List (Str × Addr)) (fp : List Addr) (xe : Value → Shared → Prop), PG (blkX X s H scope (compEnvC scope cl C X.env) fp xe) tg g)
    (ht : ∀ (s : Shared) (H : Hp) (C : Addr) (cl : List (Str × Addr)) (fp : List Addr) (xe : Value → Shared → Prop), PTs (blkX X s H scope (compEnvC scope cl C X.env) fp xe) ifs tt)
    (he : ∀ (V : WX) (s : Shared) (H : Hp) (C : Addr) (cl : List (Str × Addr)) (fp : List Addr) (xe : Value → Shared → Prop), L2N.Takes (blkX X s H scope (compEnvC scope cl C X.env) fp xe) V → PE (blkX X s H scope (compEnvC scope cl C X.env) fp xe) elt (te V))
    (hs : ∀ x, foldedSetIterable iter X.env x = pure x) (h : tLcX wi g tt te (own.map (·.2)) W σ H Q)
    (fin : ∀ D C s' m H', Inv X pins σ H' s' → Q (.ref D) H' → s'.heap.Ns C m → FpOk X pins H' C → ∀ c : Env, c.locals = C → postX (model X.prog X.w) X.A X.xe use Qf (.ref D) c (.ok .next) s') :
    wpAny (model X.prog X.w) X.A (comprehension (.ListComp elt [⟨tg, iter, ifs, 0⟩] scope pos) scope X.env pos' (newList []) false (eval iter X.env) use) Qf X.xe s := by
  have fr : ∀ y ∈ scope.names, y.2 = .free → ∃ c, X.env.cells.lookup y.1 = some c := fun y hy e => (ok.free y hy e).elim (fun k => I.ok.has _ (.inl k)) fun k => I.ok.has _ (.inr k)
  refine comp_any (use := use) rfl hs (closure_ok fr) ok.kind (fun y hy e => by rw [ok.uniq y hy, e]) (thn (hi.run pins s σ H _ I h) fun xv s1 hx => thn hx fun itv s2 h2 => ?_)
  obtain ⟨it, fp, tn, J, H2, e, I2, T, st2, f2, q⟩ := h2
  subst e
  refine wpAny_newObj_type (newEnv_comp ?_) (by show 0 ≤ sizeLine; decide)
  generalize hD : s2.heap.objs.size = D
  have dn : H2 D = none := I2.hok.fresh (Nat.le_of_eq hD)
  obtain ⟨V, ⟨m0, w0⟩, turn⟩ := q D dn
  generalize hs3 : ({ s2 with heap := s2.heap.push { cls := .type "list", data := .seq ([] : List Value).toArray } } : Shared) = s3
  have I3 : Inv X pins σ (upd H2 D (.lst [])) s3 := by
    rw [← hs3]
    exact I2.laid (t' := s2.toks) (fun b o e => Heap.get?_push_of_some _ e) (Nat.le_of_eq hD) ⟨Nat.zero_le _, [], 0, .nil, by rw [← hD]; exact Heap.get?_push_size _ rfl⟩
  have h3 : s3.heap = s2.heap.push { cls := .type "list", data := .seq ([] : List Value).toArray } := by rw [← hs3]
  have f3 : ∀ b ∈ fp, FpOk X pins (upd H2 D (.lst [])) b ∧ b < s3.heap.objs.size := fun b hb => by
    obtain ⟨o, e, _⟩ := T.obj _ _ st2 b hb
    have lt := Heap.lt_size e
    exact ⟨⟨by rw [upd_ne (by rw [← hD]; exact Nat.ne_of_lt lt)]; exact (f2 b hb).1, (f2 b hb).2⟩, by rw [h3, Heap.size_push]; exact Nat.lt_succ_of_lt lt⟩
  have st3 : tn 0 s3.heap := T.keep _ _ _ st2 fun b _ o e => by rw [h3]; exact Heap.get?_push_of_some _ e
  have I4 := block_start I3 ok hN f3
  have nfp : ∀ b ∈ fp, (upd H2 D (.lst [])) b = none := fun b hb => (f3 b hb).1.1
  have pg := hg s3 (upd H2 D (.lst [])) s3.heap.objs.size (cellsFrom (s3.heap.objs.size + 1) scope.names (cloFrom X.env.cells scope.names [])) fp
  have pt := ht s3 (upd H2 D (.lst [])) s3.heap.objs.size (cellsFrom (s3.heap.objs.size + 1) scope.names (cloFrom X.env.cells scope.names [])) fp
  have pe := he (fun cls d _ H => W cls d σ H) s3 (upd H2 D (.lst [])) s3.heap.objs.size (cellsFrom (s3.heap.objs.size + 1) scope.names (cloFrom X.env.cells scope.names [])) fp
  show codeAny _ _ (.compStart (.ListComp elt [⟨tg, iter, ifs, 0⟩] scope pos) 0 (.ref it) (.ref D) (compEnvC scope (cellsFrom (s3.heap.objs.size + 1) scope.names (cloFrom X.env.cells scope.names [])) s3.heap.objs.size X.env)) (postX (model X.prog X.w) X.A X.xe use Qf (.ref D) (compEnvC scope (cellsFrom (s3.heap.objs.size + 1) scope.names (cloFrom X.env.cells scope.names [])) s3.heap.objs.size X.env)) { s3 with heap := pushCells (s3.heap.push { cls := .type "dict", data := .dict #[] }) scope.names }
  generalize hce : compEnvC scope (cellsFrom (s3.heap.objs.size + 1) scope.names (cloFrom X.env.cells scope.names [])) s3.heap.objs.size X.env = ce at I4 pg pt pe ⊢
  have cL : ce.locals = s3.heap.objs.size := by subst hce; rfl
  have cF : ce.frame = X.env.frame := by subst hce; rfl
  generalize hH3 : upd H2 D (.lst []) = H3 at I3 I4 pg pt pe w0 nfp f3
  generalize hs4 : ({ s3 with heap := pushCells (s3.heap.push { cls := .type "dict", data := .dict #[] }) scope.names } : Shared) = s4 at I4 ⊢
  have st4 : tn 0 s4.heap := T.keep _ _ _ st3 fun b _ o e => by rw [← hs4]; exact pushCells_keeps _ _ _ _ (Heap.get?_push_of_some _ e)
  generalize hxe : notedBy (model X.prog X.w) X.A ce (fun e t' => postX (model X.prog X.w) X.A X.xe use Qf (.ref D) ce (.error e) t') = xe
  have tkb : L2N.Takes (blkX X s3 H3 scope ce fp xe) (fun cls d _ H => W cls d σ H) := fun u t x => by
    have z := air_out (use := use) (Qf := Qf) (D := .ref D) tk hst hfr I3 (fun b hb => (f3 b hb).1) cL cF x
    rw [hxe] at z
    exact z
  have pe := pe xe tkb
  have pg := pg xe
  have pt := pt xe
  have I4 : Inv (blkX X s3 H3 scope ce fp xe) [] (L2.wipe σ (own.map (·.2))) H3 s4 := ⟨⟨I4.ok.1, I4.ok.2, I4.ok.3, I4.ok.4, I4.ok.5, I4.ok.6, I4.ok.7, I4.ok.8, I4.ok.9, I4.ok.10, I4.ok.11, I4.ok.12, I4.ok.13, I4.ok.14, I4.ok.15, I4.ok.16, I4.ok.17, I4.ok.18⟩, I4.os, I4.bare, I4.base, I4.loc, I4.cell, I4.free, I4.freeC, I4.pin, I4.hok, I4.len⟩
  have stat : ∀ {τ : L2.St} {H' : Hp} {s' : Shared}, Inv (blkX X s3 H3 scope ce fp xe) [] τ H' s' → (∀ b ∈ fp, H' b = none) → ∀ b ∈ fp, FpOk (blkX X s3 H3 scope ce fp xe) [] H' b := fun {τ H' s'} J' hn b hb =>
    ⟨hn b hb, (J'.ok.exf b hb).1, J'.ok.exfs b hb, .inl hb, fun x c e => (J'.ok.exf b hb).2 x c e, fun p hp => absurd (show p ∈ ([] : List (Addr × Obj)) ++ [] from hp) (by simp)⟩
  have loop : codeAny (model X.prog X.w) X.A (.compLoop (.ListComp elt [⟨tg, iter, ifs, 0⟩] scope pos) 0 (.ref it) (.ref D) ce) (postX (model X.prog X.w) X.A X.xe use Qf (.ref D) ce) s4 := by
    refine compLoop_any (fun n t => ∃ i H', Inv (blkX X s3 H3 scope ce fp xe) [] (L2.wipe σ (own.map (·.2))) H' t ∧ tn i t.heap ∧ (∀ b ∈ fp, H' b = none) ∧ V i n H') ?_ m0 ⟨0, H3, I4, st4, nfp, w0⟩
    rintro n s5 ⟨i, H5, I5, st5, n5, w5⟩
    rcases turn i n H5 w5 with ⟨stop, qq⟩ | ⟨go, N, hN2, step⟩
    · refine thnF (T.done (blkX X s3 H3 scope ce fp xe) rfl rfl rfl hc i [] s5 _ H5 (fun _ _ => False) I5 (stat I5 n5) st5 stop) fun r s6 ⟨hr, I6⟩ => ?_
      subst hr
      have I7 : Inv X pins σ H5 s6 := I3.call' (ch := fp) I6.os I6.base I6.hok I6.bare fun b hb => ⟨(f3 b hb).1.2.2.2.1, (f3 b hb).1.2.1, (f3 b hb).1.2.2.2.2.1, (f3 b hb).1.2.2.2.2.2⟩
      have nC : H5 ce.locals = none := I6.free
      obtain ⟨m, hn, _⟩ := I6.loc
      have hn : s6.heap.Ns ce.locals m := hn
      rw [cL] at nC
      exact fin D ce.locals s6 m H5 I7 qq hn (by rw [cL]; exact I3.fpOk (Nat.le_refl _) nC) ce rfl
    · refine thnF (T.item (blkX X s3 H3 scope ce fp xe) rfl rfl rfl hc i [] s5 _ H5 (fun _ _ => False) I5 (stat I5 n5) st5 go) fun r s6 ⟨u, hr, h6⟩ => ?_
      subst hr
      refine thnF h6 fun _ s7 ⟨x, H7, I7, r7, y7, st7, n7⟩ => ?_
      rw [hxe]
      refine thn (pg.run _ s7 _ H7 x u _ (I7.pinned (stat I7 n7) (T.obj _ _ st7)) r7 (step x H7 y7)) fun _ s8 ⟨σ8, H8, I8, hw8, q8⟩ => ?_
      refine thn (pt.run _ s8 σ8 H8 _ I8 q8) fun b s9 ⟨H9, I9, q9⟩ => ?_
      have done : ∀ {t : Shared} {H' : Hp}, Inv (blkX X s3 H3 scope ce fp xe) ([] ++ pinsAt fp s7.heap) σ8 H' t → N H' → ∃ m, m < n ∧ ∃ i H', Inv (blkX X s3 H3 scope ce fp xe) [] (L2.wipe σ (own.map (·.2))) H' t ∧ tn i t.heap ∧ (∀ b ∈ fp, H' b = none) ∧ V i m H' := fun {t H'} K nx => by
        obtain ⟨m', hm, w'⟩ := hN2 H' nx
        have pin' : ∀ b ∈ fp, ∀ o, s7.heap.get? b = some o → t.heap.get? b = some o ∧ H' b = none := fun b hb o e => by
          have z := K.pin (b, o) (List.mem_append_right _ (List.mem_append_right _ (mem_pinsAt hb e)))
          exact ⟨z.1, z.2.1⟩
        have hl : (L2.wipe σ (own.map (·.2))).length = σ8.length := by rw [← hw8, wipe_length]
        refine ⟨m', hm, i + 1, H', (K.unpinned (pins := [])).weak hl (fun j v e => by rw [← hw8] at e; exact (wipe_some e).1), T.keep _ _ _ st7 fun b hb o e => (pin' b hb o e).1, fun b hb => ?_, w'⟩
        obtain ⟨o, e, _⟩ := T.obj _ _ st7 b hb
        exact (pin' b hb o e).2
      cases b with
      | false =>
        simp only [Bool.false_eq_true, if_false] at q9 ⊢
        exact done I9 q9
      | true =>
        simp only [if_true] at q9 ⊢
        refine thn (pe.run _ s9 σ8 H9 _ I9 q9) fun z s10 ⟨yv, H10, I10, r10, acc, a1, a2, nx⟩ => ?_
        exact app_ok (X := blkX X s3 H3 scope ce fp xe) I10 a1 a2 r10 fun s11 I11 => done I11 nx
  exact codeAny_compStart_list loop (T.self X.A 0 _ _ _ st4 loop)
theorem pe_lcX {elt tg iter : Expr} {ifs : List Expr} {scope : Scope} {own : List (Str × Nat)} {pos : Pos} {wi : TI} {g : TG} {tt : TT} {te : WX → TE} (hc : X.calm = true) (hN : X.N.Nodup) (tk : L2N.Takes X W) (hst : X.stack = X.env :: X.outer) (hfr : X.env.frame = some X.env.locals) (hi : PI X tg iter wi) (ok : BlkOk X.N X.env.scope scope own)
    (hg : ∀ (s : Shared) (H : Hp) (C : Addr) (cl : List (Str × Addr)) (fp : List Addr) (xe : Value → Shared → Prop), PG (blkX X s H scope (compEnvC scope cl C X.env) fp xe) tg g)
    (ht : ∀ (s : Shared) (H : Hp) (C : Addr) (cl : List (Str × Addr)) (fp : List Addr) (xe : Value → Shared → Prop), PTs (blkX X s H scope (compEnvC scope cl C X.env) fp xe) ifs tt)
    (he : ∀ (V : WX) (s : Shared) (H : Hp) (C : Addr) (cl : List (Str × Addr)) (fp : List Addr) (xe : Value → Shared → Prop), L2N.Takes (blkX X s H scope (compEnvC scope cl C X.env) fp xe) V → PE (blkX X s H scope (compEnvC scope cl C X.env) fp xe) elt (te V))
    (hs : ∀ x, foldedSetIterable iter X.env x = pure x) : PE X (.ListComp elt [⟨tg, iter, ifs, 0⟩] scope pos) (tLcX wi g tt te (own.map (·.2)) W) := by
  refine ⟨fun pins s σ H Q I h => ?_⟩
  rw [eval_ListComp]
  refine lc_coreX hc hN tk hst hfr I hi ok hg ht he hs h fun D C t m H' J q hn f c ec => ⟨m, by rw [ec]; exact hn, fun g2 sb => ?_⟩
  obtain ⟨f0, f1, f2, f3, f4, f5⟩ := f
  rw [ec] at sb
  exact ⟨.ref D, H', J.turned (t' := t.toks) (fun b o hb e => (sb.2 b hb).trans e) f0 f1 f3 f4 f5, rfl, q⟩
/-- name = [..] on one row, the name a local -/
theorem ps_setLcX {i : Nat} {y : Str} {py : Pos} {elt tg iter : Expr} {ifs : List Expr} {scope : Scope} {own : List (Str × Nat)} {pos spos : Pos} {wi : TI} {g : TG} {tt : TT} {te : WX → TE} (hc : X.calm = true) (hN : X.N.Nodup) (hy : X.N[i]? = some y) (hyl : X.env.scope.names.lookup y = some .local)
    (hsw : swapsWith (.ListComp elt [⟨tg, iter, ifs, 0⟩] scope pos) (some (.Name y py)) spos.line X.env = pure true) (tk : L2N.Takes X W) (hst : X.stack = X.env :: X.outer) (hfr : X.env.frame = some X.env.locals) (hi : PI X tg iter wi) (ok : BlkOk X.N X.env.scope scope own)
    (hg : ∀ (s : Shared) (H : Hp) (C : Addr) (cl : List (Str × Addr)) (fp : List Addr) (xe : Value → Shared → Prop), PG (blkX X s H scope (compEnvC scope cl C X.env) fp xe) tg g)
    (ht : ∀ (s : Shared) (H : Hp) (C : Addr) (cl : List (Str × Addr)) (fp : List Addr) (xe : Value → Shared → Prop), PTs (blkX X s H scope (compEnvC scope cl C X.env) fp xe) ifs tt)
    (he : ∀ (V : WX) (s : Shared) (H : Hp) (C : Addr) (cl : List (Str × Addr)) (fp : List Addr) (xe : Value → Shared → Prop), L2N.Takes (blkX X s H scope (compEnvC scope cl C X.env) fp xe) V → PE (blkX X s H scope (compEnvC scope cl C X.env) fp xe) elt (te V))
    (hs : ∀ x, foldedSetIterable iter X.env x = pure x) : PS X (.Assign [.Name y py] (.ListComp elt [⟨tg, iter, ifs, 0⟩] scope pos) spos) (tAsg (tLcX wi g tt te (own.map (·.2)) W) (gName i)) := by
  refine ⟨fun pins s σ H D I h => ?_⟩
  rw [exec_Assign_Name_used _ _ _ _ hsw]
  refine wpAny_bind (wpAny_standAt (wpAny_bind ?_))
  show wpAny _ X.A (do let _ ← comprehension (.ListComp elt [⟨tg, iter, ifs, 0⟩] scope pos) scope X.env (firstIterPos [⟨tg, iter, ifs, 0⟩] pos) (newList []) false (eval iter X.env) (some (assign (.Name y py) X.env))) _ _ s
  have h : tLcX wi g tt te (own.map (·.2)) W σ H (fun x H1 => gName i x σ H1 D.nx) := h
  refine wpAny_bind (thn (lc_coreX (Qf := fun _ t => SP X pins D .next t) hc hN tk hst hfr I hi ok hg ht he hs h fun L C t m H' J q hn f c ec => ?_) fun _ t hq => wpAny_pure (wpAny_pure hq))
  show wpAny _ _ (assign (.Name y py) X.env (.ref L)) _ _ _
  refine wpAny_assign_Name (store_ok2 (v := V.ref L) J hN hy (.inl hyl) rfl (fun t2 J2 ⟨a, sb, ha⟩ => ?_) (.inr hyl))
  obtain ⟨f0, f1, f2, f3, f4, f5⟩ := f
  have aC : C ≠ a := ha.elim (fun z => by rw [z]; exact f1) fun z e => f4 y a z e.symm
  refine ⟨m, by rw [ec]; exact hn.sameBut sb aC, fun h3 sb3 => ?_⟩
  rw [ec] at sb3
  exact ⟨_, H', J2.turned (t' := t2.toks) (fun b o hb e => (sb3.2 b hb).trans e) f0 f1 f3 f4 f5, q⟩
end
end Cw

set_option Elab.async false
set_option linter.all false
set_option maxRecDepth 100000
set_option maxHeartbeats 4000000
namespace Cw
open PySem PySem.Spec PyProof.Rows L2

/-! ### operations: the machine's rule r serves what f says of data -/
def SemOp (K : PySem.W.Frag) (r : R2) (f : D → D → R D) : Prop := ∀ (B : Str → Hp → Prop) (H G : Hp) (v u : V) (x y : D) (Q : VK), Same G H → Dp K G v x → Dp K G u y → Rs K B H G Q (f x y) → r v u H Q
def SemCall (K : PySem.W.Frag) (r : List V → Hp → VK → Prop) (f : List D → R D) : Prop := ∀ (B : Str → Hp → Prop) (H G : Hp) (vs : List V) (ds : List D) (Q : VK), Same G H → DpAll K G vs ds → Rs K B H G Q (f ds) → r vs H Q

section
variable {K : PySem.W.Frag} {X : Cx}
def opOf : Op → Operator
  | .add => .Add
  | .sub => .Sub
  | .mul => .Mult
  | .fdiv => .FloorDiv
  | .mod => .Mod
  | .pow => .Pow
  | .shl => .LShift
def rAddAll (K : PySem.W.Frag) : R2 := fun x y H Q => rI0 (fun i j => .int (i + j)) x y H Q ∨ (∃ i j, x = .str i ∧ y = .str j ∧ i.length + j.length ≤ sizeLine ∧ Q (.str (i ++ j)) H) ∨ rCatL K x y H Q ∨ rCat0 K x y H Q ∨ rCatT K x y H Q
theorem rule_add : OpR X (binaryOp .Add) (rAddAll X.K) := op_add.or (op_add_str.or (op_catL.or (op_cat0.or op_catT)))
theorem sem_add : SemOp K (rAddAll K) (opR .add) := by
  intro B H G v u x y Q s hx hy h
  cases hx with
  | int i => cases hy with
    | int j => exact .inl ⟨i, j, rfl, rfl, h.now s (.int _)⟩
    | _ => exact h.elim
  | str i => cases hy with
    | str j =>
      dsimp only [opR] at h
      split at h
      · exact .inr (.inl ⟨i, j, rfl, rfl, ‹_›, h.now s (.str _)⟩)
      · exact h.elim
    | _ => exact h.elim
  | lst q r => cases hy with
    | lst q2 r2 =>
      dsimp only [opR] at h
      split at h
      · rename_i hl
        refine .inr (.inr (.inl ⟨_, _, _, _, rfl, rfl, s.seq q, s.seq q2, by rw [dpAll_len r, dpAll_len r2]; exact hl, fun p hp => ?_⟩))
        refine h.new s hp (.lst (SqL.of upd_same) (dpAll_mono (Same.upd (s.free hp)) (dpAll_app r r2)))
      · exact h.elim
    | _ => exact h.elim
  | tup q r => cases hy with
    | tup q2 r2 =>
      dsimp only [opR] at h
      split at h
      · rename_i hl
        cases r with
        | nil => exact .inr (.inr (.inr (.inl ⟨_, _, _, rfl, rfl, Same.seqT s q, Same.seqT s q2, h.now s (.tup q2 r2)⟩)))
        | cons r0 r1 =>
          refine .inr (.inr (.inr (.inr ⟨_, _, _, _, rfl, rfl, Same.seqT s q, Same.seqT s q2, List.cons_ne_nil _ _, ?_, fun z => ?_, fun z p hp => ?_⟩)))
          · rw [dpAll_len (.cons r0 r1), dpAll_len r2]; exact hl
          · subst z
            cases r2
            rw [List.append_nil] at h
            exact h.now s (.tup q (.cons r0 r1))
          · exact h.new s hp (.tup (SqT.of upd_same) (dpAll_mono (Same.upd (s.free hp)) (dpAll_app (.cons r0 r1) r2)))
      · exact h.elim
    | _ => exact h.elim
  | _ => exact h.elim
theorem sem_sub : SemOp K (rI0 fun i j => .int (i - j)) (opR .sub) := by
  intro B H G v u x y Q s hx hy h
  cases hx with
  | int i => cases hy with
    | int j => exact ⟨i, j, rfl, rfl, h.now s (.int _)⟩
    | _ => exact h.elim
  | _ => exact h.elim
def rRepS : R2 := fun x y H Q => ∃ z k, x = .str z ∧ y = .int k ∧ PySem.MulOk z k ∧ Q (.str (Txt.mul z k)) H
theorem op_repS : OpR X (binaryOp .Mult) rRepS := by
  intro pins s σ H x y v u Q I rx ry h
  obtain ⟨z, k, rfl, rfl, hk, q⟩ := h
  obtain ⟨t, rfl⟩ := rx
  obtain ⟨t', rfl⟩ := ry
  exact PySem.SB.mul hk fun t' k => ⟨.str _, H, I.tok _, ⟨_, rfl⟩, q⟩
theorem mulSB_ok {z : Str} {k : Int} (h : mulSB z k = true) : PySem.MulOk z k := by
  unfold mulSB at h
  simp only [Bool.and_eq_true, decide_eq_true_eq] at h
  obtain ⟨⟨⟨h0, h1⟩, h2⟩, h3⟩ := h
  refine ⟨?_, fun hk _ => ?_, fun hk _ => ?_⟩
  · rw [Bool.or_eq_false_iff]
    exact ⟨decide_eq_false (by omega), decide_eq_false (by omega)⟩
  · have e : (1000 : Int) ≤ (2 ^ 63 - 1) / k := Int.le_ediv_of_mul_le (by omega) (by omega)
    omega
  · unfold Builtin.Str.tooLong
    simp
    rw [sizeLine_eq]
    omega
def rMulAll (K : PySem.W.Frag) : R2 := fun x y H Q => rI MulOk (fun i j => .int (i * j)) x y H Q ∨ rRepT K x y H Q ∨ rRepL K x y H Q ∨ rRepS x y H Q
theorem rule_mul : OpR X (binaryOp .Mult) (rMulAll X.K) := op_mulA.or (op_repT.or (op_repL.or op_repS))
theorem sem_mul : SemOp K (rMulAll K) (opR .mul) := by
  intro B H G v u x y Q s hx hy h
  cases hx with
  | int i => cases hy with
    | int j =>
      dsimp only [opR] at h
      split at h
      · exact .inl ⟨i, j, rfl, rfl, ‹_›, h.now s (.int _)⟩
      · exact h.elim
    | _ => exact h.elim
  | tup q r => cases hy with
    | int j =>
      dsimp only [opR] at h
      split at h
      · rename_i hc
        obtain ⟨h1, h2, h3, h4⟩ := hc
        refine .inr (.inl ⟨_, j, _, rfl, rfl, Same.seqT s q, fun z => h1 ?_, h2, h3, by rw [dpAll_len r]; exact h4, fun p hp => ?_⟩)
        · subst z; cases r; rfl
        · exact h.new s hp (.tup (SqT.of upd_same) (dpAll_mono (Same.upd (s.free hp)) (dpAll_rep r _)))
      · exact h.elim
    | _ => exact h.elim
  | lst q r => cases hy with
    | int j =>
      dsimp only [opR] at h
      split at h
      · rename_i hc
        obtain ⟨h2, h3, h4⟩ := hc
        refine .inr (.inr (.inl ⟨_, j, _, rfl, rfl, s.seq q, h2, h3, by rw [dpAll_len r]; exact h4, fun p hp => ?_⟩))
        exact h.new s hp (.lst (SqL.of upd_same) (dpAll_mono (Same.upd (s.free hp)) (dpAll_rep r _)))
      · exact h.elim
    | _ => exact h.elim
  | str z => cases hy with
    | int j =>
      dsimp only [opR] at h
      split at h
      · exact .inr (.inr (.inr ⟨z, j, rfl, rfl, mulSB_ok ‹_›, h.now s (.str _)⟩))
      · exact h.elim
    | _ => exact h.elim
  | _ => exact h.elim
theorem sem_fdiv : SemOp K (rI (fun _ j => j ≠ 0) fun i j => .int (i.fdiv j)) (opR .fdiv) := by
  intro B H G v u x y Q s hx hy h
  cases hx with
  | int i => cases hy with
    | int j =>
      dsimp only [opR] at h
      split at h
      · exact h.elim
      · exact ⟨i, j, rfl, rfl, ‹_›, h.now s (.int _)⟩
    | _ => exact h.elim
  | _ => exact h.elim
theorem sem_mod : SemOp K (rI (fun _ j => j ≠ 0) fun i j => .int (i.fmod j)) (opR .mod) := by
  intro B H G v u x y Q s hx hy h
  cases hx with
  | int i => cases hy with
    | int j =>
      dsimp only [opR] at h
      split at h
      · exact h.elim
      · exact ⟨i, j, rfl, rfl, ‹_›, h.now s (.int _)⟩
    | _ => exact h.elim
  | _ => exact h.elim
theorem sem_pow : SemOp K (rI CPow fun i j => .int (i ^ j.toNat)) (opR .pow) := by
  intro B H G v u x y Q s hx hy h
  cases hx with
  | int i => cases hy with
    | int j =>
      dsimp only [opR] at h
      split at h
      · exact ⟨i, j, rfl, rfl, ‹_›, h.now s (.int _)⟩
      · exact h.elim
    | _ => exact h.elim
  | _ => exact h.elim
theorem sem_shl : SemOp K (rI CPow fun i j => .int (i * 2 ^ j.toNat)) (opR .shl) := by
  intro B H G v u x y Q s hx hy h
  cases hx with
  | int i => cases hy with
    | int j =>
      dsimp only [opR] at h
      split at h
      · exact ⟨i, j, rfl, rfl, ‹_›, h.now s (.int _)⟩
      · exact h.elim
    | _ => exact h.elim
  | _ => exact h.elim
theorem rule_op (hp : Pyl X) : ∀ o : Op, ∃ r : R2, OpR X (binaryOp (opOf o)) r ∧ SemOp X.K r (opR o)
  | .add => ⟨_, rule_add, sem_add⟩
  | .sub => ⟨_, op_sub, sem_sub⟩
  | .mul => ⟨_, rule_mul, sem_mul⟩
  | .fdiv => ⟨_, op_fdivA hp, sem_fdiv⟩
  | .mod => ⟨_, op_modN, sem_mod⟩
  | .pow => ⟨_, op_pow, sem_pow⟩
  | .shl => ⟨_, op_shl, sem_shl⟩

/-! ### comparisons -/
def cmOf : Cm → CmpOp
  | .eq => .Eq
  | .ne => .NotEq
  | .lt => .Lt
  | .le => .LtE
  | .gt => .Gt
  | .ge => .GtE
  | .is => .Is
  | .isn => .IsNot
  | .isin => .In
  | .nin => .NotIn
theorem flat_dp {G : Hp} {v : V} {x : D} (h : Dp K G v x) (f : flatD x = true) : flatV v = true := by
  cases h <;> first | rfl | cases f
theorem flat_all {G : Hp} : ∀ {vs : List V} {xs : List D}, DpAll K G vs xs → xs.all flatD = true → vs.all flatV = true
  | _, _, .nil, _ => rfl
  | _, _, .cons a b, f => by
    rw [List.all_cons, Bool.and_eq_true] at f ⊢
    exact ⟨flat_dp a f.1, flat_all b f.2⟩
theorem eqV_eqv {G : Hp} {v u : V} {x y : D} (h : Dp K G v x) (g : Dp K G u y) (f : flatD x = true) (f2 : flatD y = true) : eqV v u = PyData.eqv x y := by
  cases h <;> first | (cases f; done) | (cases g <;> first | (cases f2; done) | rfl)
theorem inV_any {G : Hp} {v : V} {x : D} (h : Dp K G v x) (f : flatD x = true) : ∀ {vs : List V} {xs : List D}, DpAll K G vs xs → xs.all flatD = true → inV v vs = xs.any fun z => PyData.eqv z x
  | _, _, .nil, _ => rfl
  | _, _, .cons a b, f2 => by
    rw [List.all_cons, Bool.and_eq_true] at f2
    have e := inV_any h f b f2.2
    unfold inV at e ⊢
    rw [List.any_cons, List.any_cons, eqV_eqv a h f2.1 f, e]
theorem sem_eq : SemOp K (rEqD K) (cmR .eq) := by
  intro B H G v u x y Q s hx hy h
  dsimp only [cmR] at h
  split at h
  · exact ⟨x, y, dp_mono s hx, dp_mono s hy, (‹_ ∧ _›).1, (‹_ ∧ _›).2, h.now s (.bl _)⟩
  · exact h.elim
theorem sem_ne : SemOp K (rNeD K) (cmR .ne) := by
  intro B H G v u x y Q s hx hy h
  dsimp only [cmR] at h
  split at h
  · exact ⟨x, y, dp_mono s hx, dp_mono s hy, (‹_ ∧ _›).1, (‹_ ∧ _›).2, h.now s (.bl _)⟩
  · exact h.elim
theorem sem_lt : SemOp K (rI0 fun i j => .bl (decide (i < j))) (cmR .lt) := by
  intro B H G v u x y Q s hx hy h
  cases hx with
  | int i => cases hy with
    | int j => exact ⟨i, j, rfl, rfl, h.now s (.bl _)⟩
    | _ => exact h.elim
  | _ => exact h.elim
theorem sem_le : SemOp K (rI0 fun i j => .bl (decide (i ≤ j))) (cmR .le) := by
  intro B H G v u x y Q s hx hy h
  cases hx with
  | int i => cases hy with
    | int j => exact ⟨i, j, rfl, rfl, h.now s (.bl _)⟩
    | _ => exact h.elim
  | _ => exact h.elim
theorem sem_gt : SemOp K (rI0 fun i j => .bl (decide (j < i))) (cmR .gt) := by
  intro B H G v u x y Q s hx hy h
  cases hx with
  | int i => cases hy with
    | int j => exact ⟨i, j, rfl, rfl, h.now s (.bl _)⟩
    | _ => exact h.elim
  | _ => exact h.elim
theorem sem_ge : SemOp K (rI0 fun i j => .bl (decide (j ≤ i))) (cmR .ge) := by
  intro B H G v u x y Q s hx hy h
  cases hx with
  | int i => cases hy with
    | int j => exact ⟨i, j, rfl, rfl, h.now s (.bl _)⟩
    | _ => exact h.elim
  | _ => exact h.elim
theorem sem_is : SemOp K (fun x y H Q => (y = .non ∧ Q (.bl (decide (x = .non))) H) ∨ rIsB x y H Q) (cmR .is) := by
  intro B H G v u x y Q s hx hy h
  cases hy with
  | non =>
    refine .inl ⟨rfl, ?_⟩
    cases hx <;> exact h.now s (.bl _)
  | bl b =>
    cases hx with
    | bl a => exact .inr ⟨a, b, rfl, rfl, h.now s (.bl _)⟩
    | _ => exact h.elim
  | _ => cases hx <;> exact h.elim
theorem sem_isn : SemOp K (fun x y H Q => (y = .non ∧ Q (.bl (!decide (x = .non))) H) ∨ rNotB x y H Q) (cmR .isn) := by
  intro B H G v u x y Q s hx hy h
  cases hy with
  | non =>
    refine .inl ⟨rfl, ?_⟩
    cases hx <;> exact h.now s (.bl _)
  | bl b =>
    cases hx with
    | bl a => exact .inr ⟨a, b, rfl, rfl, h.now s (.bl _)⟩
    | _ => exact h.elim
  | _ => cases hx <;> exact h.elim
theorem sign_of {x : Str} {c : Nat} (h : x.cps.toList = [c]) : x = ⟨#[c]⟩ := by
  obtain ⟨a⟩ := x
  congr 1
  exact Array.toList_inj.mp h
theorem sem_in : SemOp K (fun x y H Q => (rInD K x y H Q ∨ rIn K false x y H Q) ∨ ∃ (c : Nat) (z : Str), x = .str ⟨#[c]⟩ ∧ y = .str z ∧ Q (.bl (decide (c ∈ z.cps.toList))) H) (cmR .isin) := by
  intro B H G v u x y Q s hx hy h
  cases hy with
  | lst q r =>
    dsimp only [cmR] at h
    split at h
    · exact .inl (.inl ⟨x, _, dp_mono s hx, dp_mono s (.lst q r), (‹_ ∧ _›).1, (‹_ ∧ _›).2, h.now s (.bl _)⟩)
    · exact h.elim
  | tup q r =>
    dsimp only [cmR] at h
    split at h
    · rename_i hc
      refine .inl (.inr ⟨_, _, rfl, .inr (Same.seqT s q), flat_dp hx hc.1, flat_all r hc.2, ?_⟩)
      rw [inV_any hx hc.1 r hc.2]
      exact h.now s (.bl _)
    · exact h.elim
  | str z =>
    cases hx with
    | str x =>
      dsimp only [cmR] at h
      split at h
      · rename_i c e
        rw [sign_of e]
        exact .inr ⟨c, z, rfl, rfl, h.now s (.bl _)⟩
      · exact h.elim
    | _ => exact h.elim
  | _ => exact h.elim
theorem sem_nin : SemOp K (fun x y H Q => (rNotInD K x y H Q ∨ rIn K true x y H Q) ∨ ∃ (c : Nat) (z : Str), x = .str ⟨#[c]⟩ ∧ y = .str z ∧ Q (.bl (!decide (c ∈ z.cps.toList))) H) (cmR .nin) := by
  intro B H G v u x y Q s hx hy h
  cases hy with
  | lst q r =>
    dsimp only [cmR] at h
    split at h
    · exact .inl (.inl ⟨x, _, dp_mono s hx, dp_mono s (.lst q r), (‹_ ∧ _›).1, (‹_ ∧ _›).2, h.now s (.bl _)⟩)
    · exact h.elim
  | tup q r =>
    dsimp only [cmR] at h
    split at h
    · rename_i hc
      refine .inl (.inr ⟨_, _, rfl, .inr (Same.seqT s q), flat_dp hx hc.1, flat_all r hc.2, ?_⟩)
      rw [inV_any hx hc.1 r hc.2]
      exact h.now s (.bl _)
    · exact h.elim
  | str z =>
    cases hx with
    | str x =>
      dsimp only [cmR] at h
      split at h
      · rename_i c e
        rw [sign_of e]
        exact .inr ⟨c, z, rfl, rfl, h.now s (.bl _)⟩
      · exact h.elim
    | _ => exact h.elim
  | _ => exact h.elim
theorem rule_cm (hu : X.A.units + 65 < cLine) : ∀ o : Cm, ∃ r : R2, OpR X (compareOp (cmOf o)) r ∧ SemOp X.K r (cmR o)
  | .eq => ⟨_, op_eqD (by omega), sem_eq⟩
  | .ne => ⟨_, op_neD (by omega), sem_ne⟩
  | .lt => ⟨_, op_lt, sem_lt⟩
  | .le => ⟨_, op_le, sem_le⟩
  | .gt => ⟨_, op_gt, sem_gt⟩
  | .ge => ⟨_, op_ge, sem_ge⟩
  | .is => ⟨_, op_isN.or op_isBl, sem_is⟩
  | .isn => ⟨_, op_notN.or op_notBl, sem_isn⟩
  | .isin => ⟨_, ((op_inD hu).or op_in_seq).or op_in_sign, sem_in⟩
  | .nin => ⟨_, ((op_notInD hu).or op_notIn_seq).or op_notIn_sign, sem_nin⟩
/-- what comparisons come to is a truth -/
theorem cm_bool {o : Cm} {x y d : D} (h : cmR o x y = .ok d) : ∃ b, d = .bool b := by
  unfold cmR at h
  split at h <;> first | (split at h <;> first | (cases h; exact ⟨_, rfl⟩) | cases h) | (cases h; exact ⟨_, rfl⟩) | cases h

/-! ### places, cuts -/
theorem atI_dp {G : Hp} {vs : List V} {xs : List D} {i : Int} {d : D} (r : DpAll K G vs xs) (h : L2.atI xs i = some d) : ∃ v, L2.atI vs i = some v ∧ Dp K G v d := by
  unfold L2.atI at h ⊢
  rw [dpAll_len r]
  obtain ⟨j, h1, h2⟩ := Option.bind_eq_some_iff.mp h
  obtain ⟨v, h3, h4⟩ := dpAll_get r h2
  exact ⟨v, by rw [h1]; exact h3, h4⟩
theorem sem_ix : SemOp K (rIx K) ixR := by
  intro B H G v u x y Q s hx hy h
  cases hx with
  | lst q r => cases hy with
    | int i =>
      rename_i ds
      dsimp only [ixR] at h
      cases e : L2.atI ds i with
      | none => rw [e] at h; exact h.elim
      | some d =>
        rw [e] at h
        obtain ⟨w, h1, h2⟩ := atI_dp r e
        exact .inl ⟨_, _, i, w, rfl, rfl, s.seq q, h1, Rs.now h s h2⟩
    | _ => exact h.elim
  | tup q r => cases hy with
    | int i =>
      rename_i ds
      dsimp only [ixR] at h
      cases e : L2.atI ds i with
      | none => rw [e] at h; exact h.elim
      | some d =>
        rw [e] at h
        obtain ⟨w, h1, h2⟩ := atI_dp r e
        exact .inr (.inl ⟨_, _, i, w, rfl, rfl, Same.seqT s q, h1, Rs.now h s h2⟩)
    | _ => exact h.elim
  | str z => cases hy with
    | int i =>
      dsimp only [ixR] at h
      split at h
      · cases e : L2.atI z.cps.toList i with
        | none => rw [e] at h; exact h.elim
        | some d =>
          rw [e] at h
          exact .inr (.inr ⟨z, i, d, rfl, rfl, ‹_›, e, Rs.now h s (.str _)⟩)
      · exact h.elim
    | _ => exact h.elim
  | _ => exact h.elim
theorem cut_dp {G : Hp} {vs : List V} {xs : List D} {lo hi : Option Int} (r : DpAll K G vs xs) : DpAll K G (cutV vs lo hi) (cutD xs lo hi) := by
  unfold cutV cutD
  rw [dpAll_len r]
  exact dpAll_take _ (dpAll_drop _ r)
def rSlAll (K : PySem.W.Frag) : V → Option Int → Option Int → Hp → VK → Prop := fun x lo hi H Q => rSlL K x lo hi H Q ∨ rSlT K x lo hi H Q ∨ rSlS x lo hi H Q
theorem rule_sl : SlR X (rSlAll X.K) := sl_list.or (sl_tup.or sl_str)
theorem sem_sl {B : Str → Hp → Prop} {H G : Hp} {v : V} {x : D} {lo hi : Option Int} {Q : VK} (s : Same G H) (hx : Dp K G v x) (h : Rs K B H G Q (slR x lo hi)) : rSlAll K v lo hi H Q := by
  cases hx with
  | lst q r => exact .inl ⟨_, _, rfl, s.seq q, fun p hp => Rs.new h s hp (.lst (SqL.of upd_same) (dpAll_mono (Same.upd (s.free hp)) (cut_dp r)))⟩
  | tup q r =>
    dsimp only [slR] at h
    split at h
    · exact h.elim
    · rename_i hc
      exact .inr (.inl ⟨_, _, rfl, Same.seqT s q, by rw [dpAll_len r]; exact hc, fun p hp => Rs.new h s hp (.tup (SqT.of upd_same) (dpAll_mono (Same.upd (s.free hp)) (cut_dp r)))⟩)
  | str z =>
    dsimp only [slR] at h
    split at h
    · exact .inr (.inr ⟨z, rfl, ‹_›, h.now s (.str _)⟩)
    · exact h.elim
  | _ => exact h.elim

/-! ### built-in calls -/
theorem sem_len : SemCall K (fun xs H Q => ∃ x n, xs = [x] ∧ LenV K x H n ∧ Q (.int n) H) (bfR .len) := by
  intro B H G vs ds Q s hd h
  cases hd with
  | nil => exact h.elim
  | cons a b => cases b with
    | cons _ _ => cases a <;> exact h.elim
    | nil =>
      cases a with
      | lst q r => exact ⟨_, _, rfl, .inl ⟨_, s.seq q, rfl⟩, by rw [dpAll_len r]; exact h.now s (.int _)⟩
      | tup q r => exact ⟨_, _, rfl, .inr ⟨_, Same.seqT s q, rfl⟩, by rw [dpAll_len r]; exact h.now s (.int _)⟩
      | str z =>
        dsimp only [bfR] at h
        split at h
        · exact ⟨_, _, rfl, ⟨‹_›, rfl⟩, h.now s (.int _)⟩
        · exact h.elim
      | _ => exact h.elim
theorem sem_abs : SemCall K (fun xs H Q => ∃ i, xs = [.int i] ∧ Q (.int (if i < 0 then -i else i)) H) (bfR .abs) := by
  intro B H G vs ds Q s hd h
  cases hd with
  | nil => exact h.elim
  | cons a b => cases b with
    | cons _ _ => cases a <;> exact h.elim
    | nil =>
      cases a with
      | int i => exact ⟨i, rfl, h.now s (.int _)⟩
      | _ => exact h.elim
theorem CallR.or {v : Value} {r1 r2 : List V → Hp → VK → Prop} (h1 : CallR X v r1) (h2 : CallR X v r2) : CallR X v (fun xs H Q => r1 xs H Q ∨ r2 xs H Q) := by
  intro pins s σ H vs us Q I r h
  rcases h with h | h
  · exact h1 pins s σ H vs us Q I r h
  · exact h2 pins s σ H vs us Q I r h
theorem mxL_mem : ∀ (xs : List Int) (x : Int), mxL (x :: xs) ∈ x :: xs ∧ ∀ y ∈ x :: xs, y ≤ mxL (x :: xs) := by
  intro xs
  induction xs with
  | nil => intro x; exact ⟨List.mem_cons_self, fun y hy => by cases hy with | head => exact Int.le_refl _ | tail _ h => cases h⟩
  | cons z zs ih =>
    intro x
    have e : mxL (x :: z :: zs) = mxL ((if x < z then z else x) :: zs) := rfl
    obtain ⟨a, b⟩ := ih (if x < z then z else x)
    rw [e]
    refine ⟨?_, fun y hy => ?_⟩
    · rcases List.mem_cons.mp a with h | h
      · rw [h]; split
        · exact List.mem_cons_of_mem _ List.mem_cons_self
        · exact List.mem_cons_self
      · exact List.mem_cons_of_mem _ (List.mem_cons_of_mem _ h)
    · have c := b _ List.mem_cons_self
      rcases List.mem_cons.mp hy with h | h
      · subst h
        refine Int.le_trans ?_ c
        split <;> omega
      · rcases List.mem_cons.mp h with h | h
        · subst h
          refine Int.le_trans ?_ c
          split <;> omega
        · exact b _ (List.mem_cons_of_mem _ h)
theorem sem_max : SemCall K (fun xs H Q => (∃ i j, xs = [.int i, .int j] ∧ Q (.int (if j > i then j else i)) H) ∨ rMax K xs H Q) (bfR .max) := by
  intro B H G vs ds Q s hd h
  cases hd with
  | nil => exact h.elim
  | cons a b => cases b with
    | nil =>
      cases a with
      | lst q r =>
        rename_i ds
        dsimp only [bfR] at h
        cases e : intsOf ds with
        | none => rw [e] at h; exact h.elim
        | some ns =>
          rw [e] at h
          have z := dpAll_ints r e
          subst z
          cases ns with
          | nil => exact (show False from h).elim
          | cons n ns =>
            refine .inr ⟨_, n :: ns, rfl, s.seq q, Nat.succ_pos _, fun m hm hy => ?_⟩
            obtain ⟨a1, a2⟩ := mxL_mem ns n
            have : m = mxL (n :: ns) := Int.le_antisymm (a2 m hm) (hy _ a1)
            rw [this]
            exact Rs.now h s (.int _)
      | _ => exact h.elim
    | cons a2 b2 => cases b2 with
      | cons _ _ => cases a <;> cases a2 <;> exact h.elim
      | nil => cases a with
        | int i => cases a2 with
          | int j => exact .inl ⟨i, j, rfl, h.now s (.int _)⟩
          | _ => exact h.elim
        | _ => cases a2 <;> exact h.elim
theorem sem_min : SemCall K (fun xs H Q => ∃ i j, xs = [.int i, .int j] ∧ Q (.int (if j < i then j else i)) H) (bfR .min) := by
  intro B H G vs ds Q s hd h
  cases hd with
  | nil => exact h.elim
  | cons a b => cases b with
    | nil => cases a <;> exact h.elim
    | cons a2 b2 => cases b2 with
      | cons _ _ => cases a <;> cases a2 <;> exact h.elim
      | nil => cases a with
        | int i => cases a2 with
          | int j => exact ⟨i, j, rfl, h.now s (.int _)⟩
          | _ => exact h.elim
        | _ => exact h.elim
theorem sem_int : SemCall K (fun xs H Q => ((∃ i, xs = [.int i] ∧ Q (.int i) H) ∨ ∃ k, xs = [.bl k] ∧ Q (.int (if k then 1 else 0)) H) ∨ ∃ a n, xs = [.str a] ∧ PySem.intText? a = some n ∧ a.length ≤ 640 ∧ Q (.int n) H) (bfR .int) := by
  intro B H G vs ds Q s hd h
  cases hd with
  | nil => exact h.elim
  | cons a b => cases b with
    | cons _ _ => cases a <;> exact h.elim
    | nil =>
      cases a with
      | int i => exact .inl (.inl ⟨i, rfl, h.now s (.int _)⟩)
      | bl i => exact .inl (.inr ⟨i, rfl, h.now s (.int _)⟩)
      | str z =>
        dsimp only [bfR] at h
        split at h
        · cases e : PySem.intText? z with
          | none => rw [e] at h; exact h.elim
          | some n => rw [e] at h; exact .inr ⟨z, n, rfl, e, ‹_›, Rs.now h s (.int _)⟩
        · exact h.elim
      | _ => exact h.elim
theorem sem_sum : SemCall K (rSum K) (bfR .sum) := by
  intro B H G vs ds Q s hd h
  cases hd with
  | nil => exact h.elim
  | cons a b => cases b with
    | cons _ _ => cases a <;> exact h.elim
    | nil =>
      cases a with
      | lst q r =>
        rename_i ds
        dsimp only [bfR] at h
        cases e : intsOf ds with
        | none => rw [e] at h; exact h.elim
        | some ns =>
          rw [e] at h
          have z := dpAll_ints r e
          subst z
          exact ⟨_, ns, rfl, s.seq q, Rs.now h s (.int _)⟩
      | _ => exact h.elim
theorem sem_all : SemCall K (rAll K) (bfR .all) := by
  intro B H G vs ds Q s hd h
  cases hd with
  | nil => exact h.elim
  | cons a b => cases b with
    | cons _ _ => cases a <;> exact h.elim
    | nil =>
      cases a with
      | lst q r =>
        rename_i ds
        dsimp only [bfR] at h
        cases e : blsOf ds with
        | none => rw [e] at h; exact h.elim
        | some ns =>
          rw [e] at h
          have z := dpAll_bls r e
          subst z
          exact ⟨_, ns, rfl, s.seq q, Rs.now h s (.bl _)⟩
      | _ => exact h.elim
theorem sem_any : SemCall K (rAny K) (bfR .any) := by
  intro B H G vs ds Q s hd h
  cases hd with
  | nil => exact h.elim
  | cons a b => cases b with
    | cons _ _ => cases a <;> exact h.elim
    | nil =>
      cases a with
      | lst q r =>
        rename_i ds
        dsimp only [bfR] at h
        cases e : blsOf ds with
        | none => rw [e] at h; exact h.elim
        | some ns =>
          rw [e] at h
          have z := dpAll_bls r e
          subst z
          exact ⟨_, ns, rfl, s.seq q, Rs.now h s (.bl _)⟩
      | _ => exact h.elim
theorem sem_tuple : SemCall K (fun xs H Q => ∃ p ys, xs = [.ref p] ∧ ((SqL K H p ys ∧ ∀ l, H l = none → Q (.ref l) (upd H l (.tup ys))) ∨ (SqT K H p ys ∧ Q (.ref p) H))) (bfR .tuple) := by
  intro B H G vs ds Q s hd h
  cases hd with
  | nil => exact h.elim
  | cons a b => cases b with
    | cons _ _ => cases a <;> exact h.elim
    | nil =>
      cases a with
      | lst q r => exact ⟨_, _, rfl, .inl ⟨s.seq q, fun p hp => Rs.new h s hp (.tup (SqT.of upd_same) (dpAll_mono (Same.upd (s.free hp)) r))⟩⟩
      | tup q r => exact ⟨_, _, rfl, .inr ⟨Same.seqT s q, h.now s (.tup q r)⟩⟩
      | _ => exact h.elim
theorem sem_list : SemCall K (fun xs H Q => ∃ p ys, xs = [.ref p] ∧ (SqL K H p ys ∨ SqT K H p ys) ∧ ∀ l, H l = none → Q (.ref l) (upd H l (.lst ys))) (bfR .list) := by
  intro B H G vs ds Q s hd h
  cases hd with
  | nil => exact h.elim
  | cons a b => cases b with
    | cons _ _ => cases a <;> exact h.elim
    | nil =>
      cases a with
      | lst q r => exact ⟨_, _, rfl, .inl (s.seq q), fun p hp => Rs.new h s hp (.lst (SqL.of upd_same) (dpAll_mono (Same.upd (s.free hp)) r))⟩
      | tup q r => exact ⟨_, _, rfl, .inr (Same.seqT s q), fun p hp => Rs.new h s hp (.lst (SqL.of upd_same) (dpAll_mono (Same.upd (s.free hp)) r))⟩
      | _ => exact h.elim
def bfName : Bf → Str
  | .len => "len"
  | .abs => "abs"
  | .max => "max"
  | .min => "min"
  | .int => "int"
  | .sum => "sum"
  | .all => "all"
  | .any => "any"
  | .tuple => "tuple"
  | .list => "list"
def bfVal : Bf → Value
  | .len => .builtin "len"
  | .abs => .builtin "abs"
  | .max => .builtin "max"
  | .min => .builtin "min"
  | .int => .type "int"
  | .sum => .builtin "sum"
  | .all => .builtin "all"
  | .any => .builtin "any"
  | .tuple => .type "tuple"
  | .list => .type "list"
theorem bf_boot (f : Bf) : bootBuiltins (bfName f) = some (bfVal f) := by cases f <;> decide +kernel
theorem bf_name (f : Bf) : bfName f ≠ "__name__" := by cases f <;> decide +kernel
theorem bf_dbg (f : Bf) : (bfName f == ("__debug__" : Str)) = false := by cases f <;> decide +kernel
theorem rule_bf (hc : X.calm = true) : ∀ f : Bf, ∃ r, CallR X (bfVal f) r ∧ SemCall X.K r (bfR f)
  | .len => ⟨_, call_len, sem_len⟩
  | .abs => ⟨_, call_abs, sem_abs⟩
  | .max => ⟨_, CallR.or (call_max2 hc) (cr_max hc), sem_max⟩
  | .min => ⟨_, call_min2 hc, sem_min⟩
  | .int => ⟨_, CallR.or call_int1 call_int_str, sem_int⟩
  | .sum => ⟨_, cr_sum hc, sem_sum⟩
  | .all => ⟨_, cr_all hc, sem_all⟩
  | .any => ⟨_, cr_any hc, sem_any⟩
  | .tuple => ⟨_, call_tuple_of, sem_tuple⟩
  | .list => ⟨_, call_list_of, sem_list⟩

/-! ### isinstance -/
def tyName : Ty → String
  | .int => "int"
  | .bool => "bool"
  | .tuple => "tuple"
  | .list => "list"
  | .str => "str"
theorem ty_boot (t : Ty) : bootBuiltins (Str.ofString (tyName t)) = some (.type (tyName t)) := by cases t <;> decide +kernel
theorem ty_name (t : Ty) : Str.ofString (tyName t) ≠ "__name__" := by cases t <;> decide +kernel
theorem ty_dbg (t : Ty) : (Str.ofString (tyName t) == ("__debug__" : Str)) = false := by cases t <;> decide +kernel
theorem tyX_lst {H : Hp} {a : Addr} {xs : List V} (h : SqL K H a xs) : TyX K H (.ref a) (.type "list") := by
  rcases h with (h | ⟨o, h⟩) | ⟨o, its, n, h, hc, _⟩
  · exact .base (.lst h)
  · exact .base (.frz h)
  · exact .kList h hc
theorem tyX_tup {H : Hp} {a : Addr} {xs : List V} (h : SqT K H a xs) : TyX K H (.ref a) (.type "tuple") := by
  rcases h with (h | ⟨o, h⟩) | ⟨o, its, n, h, hc, _⟩
  · exact .base (.tup h)
  · exact .fTuple h
  · exact .kTuple h hc
theorem kit_all (t : Ty) : ∀ n ∈ ["NoneType", "bool", "int", "str", "list", "tuple"], kitB n (tyName t) = some (decide (n = tyName t) || (decide (n = "bool") && decide (tyName t = "int"))) := by
  cases t <;> decide +kernel
theorem sem_isi {B : Str → Hp → Prop} {H G : Hp} {v : V} {x : D} {t : Ty} {Q : VK} (s : Same G H) (hx : Dp K G v x) (h : Rs K B H G Q (isiR t x)) : rIsi K [v, .ty (tyName t)] H Q := by
  cases hx with
  | non => exact ⟨_, _, _, _, _, rfl, .ty _, .base .non, kit_ty (kit_all t "NoneType" (by decide)), by cases t <;> exact h.now s (.bl _)⟩
  | bl b => exact ⟨_, _, _, _, _, rfl, .ty _, .base (.bl b), kit_ty (kit_all t "bool" (by decide)), by cases t <;> exact h.now s (.bl _)⟩
  | int b => exact ⟨_, _, _, _, _, rfl, .ty _, .base (.int b), kit_ty (kit_all t "int" (by decide)), by cases t <;> exact h.now s (.bl _)⟩
  | str b => exact ⟨_, _, _, _, _, rfl, .ty _, .base (.str b), kit_ty (kit_all t "str" (by decide)), by cases t <;> exact h.now s (.bl _)⟩
  | lst q r => exact ⟨_, _, _, _, _, rfl, .ty _, tyX_lst (s.seq q), kit_ty (kit_all t "list" (by decide)), by cases t <;> exact h.now s (.bl _)⟩
  | tup q r => exact ⟨_, _, _, _, _, rfl, .ty _, tyX_tup (Same.seqT s q), kit_ty (kit_all t "tuple" (by decide)), by cases t <;> exact h.now s (.bl _)⟩
end
end Cw

set_option Elab.async false
set_option linter.all false
set_option maxRecDepth 100000
set_option maxHeartbeats 4000000
namespace Cw
open PySem PySem.Spec PyProof.Rows L2

/-! ### walks -/
structure WalkD (K : PySem.W.Frag) (J : L2.It) (G : Hp) (ds : List D) : Prop where
  le : ds.length ≤ sizeLine
  goes : ∀ i H, i < ds.length → SameD G H → J.go i H
  stops : ∀ H, SameD G H → J.stop ds.length H
  yields : ∀ i H x H' G1, i < ds.length → SameD G G1 → Same G1 H → J.yld i H x H' → ∃ d G2, ds[i]? = some d ∧ Ext H G1 H' G2 ∧ Dp K G2 x d
theorem WalkD.back {K : PySem.W.Frag} {J : L2.It} {G G3 : Hp} {ds : List D} (w : WalkD K J G ds) (s3 : SameD G G3) (s4 : Same G3 G) : WalkD K J G3 ds :=
  have t : ∀ {H : Hp}, SameD G3 H → SameD G H := fun h b o e n => h b o (s3 b o e n) n
  ⟨w.le, fun i H hi s => w.goes i H hi (t s), fun H s => w.stops H (t s), fun i H x H' G1 hi s s1 y => w.yields i H x H' G1 hi (t s) s1 y⟩
theorem walkD_list {K : PySem.W.Frag} {G : Hp} {a : Addr} {vs : List V} {ds : List D} (q : SqL K G a vs) (r : DpAll K G vs ds) (hz : vs.length ≤ sizeLine) : WalkD K (Itl K a) G ds := by
  have e := dpAll_len r
  refine ⟨by omega, fun i H hi s => ?_, fun H s => ⟨vs, s.seq q, by omega⟩, fun i H x H' G1 hi s s1 y => ?_⟩
  · exact ⟨vs, vs[i]'(by omega), s.seq q, List.getElem?_eq_getElem (by omega)⟩
  · obtain ⟨rfl, y⟩ := y
    obtain ⟨d, h1, h2⟩ := dpAll_getV r (y vs ((s.trans s1).seq q))
    exact ⟨d, G1, h1, Ext.refl s1, dp_monoD s h2⟩
theorem walkD_tup {K : PySem.W.Frag} {G : Hp} {a : Addr} {vs : List V} {ds : List D} (q : SqT K G a vs) (r : DpAll K G vs ds) (hz : vs.length ≤ sizeLine) : WalkD K (Itt K a) G ds := by
  have e := dpAll_len r
  refine ⟨by omega, fun i H hi s => ?_, fun H s => ⟨vs, SameD.seqT s q, by omega⟩, fun i H x H' G1 hi s s1 y => ?_⟩
  · exact ⟨vs, vs[i]'(by omega), SameD.seqT s q, List.getElem?_eq_getElem (by omega)⟩
  · obtain ⟨rfl, y⟩ := y
    obtain ⟨d, h1, h2⟩ := dpAll_getV r (y vs (SameD.seqT (s.trans s1) q))
    exact ⟨d, G1, h1, Ext.refl s1, dp_monoD s h2⟩
theorem walkD_range {K : PySem.W.Frag} {G : Hp} {lo : Int} {n : Nat} (hn : n ≤ 1000000) : WalkD K (Itr lo n) G (rngL lo n) := by
  have e : (rngL lo n).length = n := by unfold rngL; rw [List.length_map, List.length_range]
  refine ⟨by rw [e, sizeLine_eq]; omega, fun i H hi s => ?_, fun H s => ?_, fun i H x H' G1 hi s s1 y => ?_⟩
  · rw [e] at hi; exact hi
  · rw [e]; exact Nat.le_refl _
  · obtain ⟨rfl, rfl⟩ := y
    rw [e] at hi
    refine ⟨_, G1, ?_, Ext.refl s1, .int (lo + i)⟩
    unfold rngL
    rw [List.getElem?_map, List.getElem?_range hi]; rfl
theorem zipL_len : ∀ (as bs : List D), (zipL as bs).length = min as.length bs.length
  | [], _ => by simp [zipL]
  | _ :: _, [] => by simp [zipL]
  | a :: as, b :: bs => by simp only [zipL, List.length_cons, zipL_len as bs]; omega
theorem zipL_get : ∀ (as bs : List D) (i : Nat) (a b : D), as[i]? = some a → bs[i]? = some b → (zipL as bs)[i]? = some (.tuple [a, b])
  | [], _, i, a, b, h, _ => by simp at h
  | _ :: _, [], i, a, b, _, h => by simp at h
  | x :: as, y :: bs, 0, a, b, h, g => by simp at h g; subst h g; rfl
  | x :: as, y :: bs, i + 1, a, b, h, g => by
    simp only [List.getElem?_cons_succ] at h g
    simp only [zipL, List.getElem?_cons_succ]
    exact zipL_get as bs i a b h g
theorem pair_dp {K : PySem.W.Frag} {G : Hp} {T : Addr} {x y : V} {a b : D} (hT : G T = none) (h1 : Dp K G x a) (h2 : Dp K G y b) : Dp K (upd G T (.tup [x, y])) (.ref T) (.tuple [a, b]) :=
  .tup (SqT.of upd_same) (.cons (dp_mono (Same.upd hT) h1) (.cons (dp_mono (Same.upd hT) h2) .nil))
theorem walkD_zipL {K : PySem.W.Frag} {G : Hp} {a b : Addr} {vs ws : List V} {ds es : List D} (q : SqL K G a vs) (r : DpAll K G vs ds) (q2 : SqL K G b ws) (r2 : DpAll K G ws es) (hz : ds.length ≤ sizeLine) : WalkD K (Itz K a b) G (zipL ds es) := by
  have e := dpAll_len r
  have e2 := dpAll_len r2
  have e3 := zipL_len ds es
  refine ⟨by omega, fun i H hi s => ?_, fun H s => ⟨vs, ws, s.seq q, s.seq q2, by omega⟩, fun i H x H' G1 hi s s1 y => ?_⟩
  · exact ⟨vs, ws, vs[i]'(by omega), ws[i]'(by omega), s.seq q, s.seq q2, List.getElem?_eq_getElem (by omega), List.getElem?_eq_getElem (by omega)⟩
  · obtain ⟨T, x1, x2, rfl, hT, rfl, y1, y2⟩ := y
    obtain ⟨d, h1, h2⟩ := dpAll_getV r (y1 vs ((s.trans s1).seq q))
    obtain ⟨d2, h3, h4⟩ := dpAll_getV r2 (y2 ws ((s.trans s1).seq q2))
    exact ⟨_, upd G1 T (.tup [x1, x2]), zipL_get ds es i d d2 h1 h3, Ext.new s1 hT, pair_dp (s1.free hT) (dp_monoD s h2) (dp_monoD s h4)⟩
theorem walkD_zipT {K : PySem.W.Frag} {G : Hp} {a b : Addr} {vs ws : List V} {ds es : List D} (q : SqT K G a vs) (r : DpAll K G vs ds) (q2 : SqT K G b ws) (r2 : DpAll K G ws es) (hz : ds.length ≤ sizeLine) : WalkD K (RZ.ItzT K a b) G (zipL ds es) := by
  have e := dpAll_len r
  have e2 := dpAll_len r2
  have e3 := zipL_len ds es
  refine ⟨by omega, fun i H hi s => ?_, fun H s => ⟨vs, ws, SameD.seqT s q, SameD.seqT s q2, by omega⟩, fun i H x H' G1 hi s s1 y => ?_⟩
  · exact ⟨vs, ws, vs[i]'(by omega), ws[i]'(by omega), SameD.seqT s q, SameD.seqT s q2, List.getElem?_eq_getElem (by omega), List.getElem?_eq_getElem (by omega)⟩
  · obtain ⟨T, x1, x2, rfl, hT, rfl, y1, y2⟩ := y
    obtain ⟨d, h1, h2⟩ := dpAll_getV r (y1 vs (SameD.seqT (s.trans s1) q))
    obtain ⟨d2, h3, h4⟩ := dpAll_getV r2 (y2 ws (SameD.seqT (s.trans s1) q2))
    exact ⟨_, upd G1 T (.tup [x1, x2]), zipL_get ds es i d d2 h1 h3, Ext.new s1 hT, pair_dp (s1.free hT) (dp_monoD s h2) (dp_monoD s h4)⟩
theorem enumL_len : ∀ (k : Nat) (as : List D), (enumL k as).length = as.length
  | _, [] => rfl
  | k, a :: as => by simp only [enumL, List.length_cons, enumL_len (k + 1) as]
theorem enumL_get : ∀ (k : Nat) (as : List D) (i : Nat) (a : D), as[i]? = some a → (enumL k as)[i]? = some (.tuple [.int ((k + i : Nat) : Int), a])
  | _, [], i, a, h => by simp at h
  | k, x :: as, 0, a, h => by simp at h; subst h; rfl
  | k, x :: as, i + 1, a, h => by
    simp only [List.getElem?_cons_succ] at h
    simp only [enumL, List.getElem?_cons_succ]
    rw [enumL_get (k + 1) as i a h]
    have z : k + 1 + i = k + (i + 1) := by omega
    rw [z]
theorem walkD_enum {K : PySem.W.Frag} {G : Hp} {a : Addr} {vs : List V} {ds : List D} (q : SqL K G a vs) (r : DpAll K G vs ds) (hz : ds.length ≤ sizeLine) : WalkD K (Ite K a) G (enumL 0 ds) := by
  have e := dpAll_len r
  have e3 := enumL_len 0 ds
  have w := walk_enum (K := K) (a := a) (xs := vs)
  refine ⟨by omega, fun i H hi s => w.goes i H (by omega) (s.seq q), fun H s => ?_, fun i H x H' G1 hi s s1 y => ?_⟩
  · have z := w.stops H (s.seq q)
    rw [e3, ← e]; exact z
  · obtain ⟨T, x1, x2, rfl, hT, rfl, y1, y2⟩ := w.yields i H x H' (by omega) ((s.trans s1).seq q) y
    cases y1
    obtain ⟨d, h1, h2⟩ := dpAll_getV r y2
    refine ⟨_, upd G1 T (.tup [.int (i : Nat), x2]), enumL_get 0 ds i d h1, Ext.new s1 hT, ?_⟩
    rw [Nat.zero_add]
    exact pair_dp (s1.free hT) (.int _) (dp_monoD s h2)

theorem walk_enumT {K : PySem.W.Frag} {a : Addr} {xs : List V} : Walk (IteT K a) xs.length (fun H => SqT K H a xs) (YPair (fun i => some (.int (i : Nat))) (fun i => xs[i]?)) := by
  refine ⟨fun i _ hi q => ⟨xs, xs[i], q, by simp [hi]⟩, fun _ q => ⟨xs, q, Nat.le_refl _⟩, fun i H v H' _ q y => ?_⟩
  obtain ⟨T, x, h1, h2, h3, h4⟩ := y
  exact ⟨T, .int (i : Nat), x, h1, h2, h3, rfl, h4 xs q⟩
theorem walkD_enumT {K : PySem.W.Frag} {G : Hp} {a : Addr} {vs : List V} {ds : List D} (q : SqT K G a vs) (r : DpAll K G vs ds) (hz : ds.length ≤ sizeLine) : WalkD K (IteT K a) G (enumL 0 ds) := by
  have e := dpAll_len r
  have e3 := enumL_len 0 ds
  have w := walk_enumT (K := K) (a := a) (xs := vs)
  refine ⟨by omega, fun i H hi s => w.goes i H (by omega) (SameD.seqT s q), fun H s => ?_, fun i H x H' G1 hi s s1 y => ?_⟩
  · have z := w.stops H (SameD.seqT s q)
    rw [e3, ← e]; exact z
  · obtain ⟨T, x1, x2, rfl, hT, rfl, y1, y2⟩ := w.yields i H x H' (by omega) (SameD.seqT (s.trans s1) q) y
    cases y1
    obtain ⟨d, h1, h2⟩ := dpAll_getV r y2
    refine ⟨_, upd G1 T (.tup [.int (i : Nat), x2]), enumL_get 0 ds i d h1, Ext.new s1 hT, ?_⟩
    rw [Nat.zero_add]
    exact pair_dp (s1.free hT) (.int _) (dp_monoD s h2)

theorem walkD_str {K : PySem.W.Frag} {G : Hp} {z : Str} (hz : z.length ≤ sizeLine) : WalkD K (Its z) G (z.cps.toList.map fun c => .str ⟨#[c]⟩) := by
  have w := walk_str (z := z)
  have e : (z.cps.toList.map fun c => (.str ⟨#[c]⟩ : D)).length = z.cps.size := by simp
  refine ⟨by rw [e]; exact hz, fun i H hi s => w.goes i H (by omega) trivial, fun H s => ?_, fun i H x H' G1 hi s s1 y => ?_⟩
  · rw [e]; exact w.stops H trivial
  · obtain ⟨rfl, c, h1, rfl⟩ := w.yields i H x H' (by omega) trivial y
    refine ⟨.str ⟨#[c]⟩, G1, ?_, Ext.refl s1, .str _⟩
    rw [List.getElem?_map, Array.getElem?_toList, h1]
    rfl
/-- what is wanted of a walk -/
def RsI (K : PySem.W.Frag) (B : Str → Hp → Prop) (H G : Hp) (R0 : L2.It → Hp → Prop) : R (List D) → Prop
  | .ok ds => ∀ J H' G', Ext H G H' G' → WalkD K J G' ds → R0 J H'
  | .exc c => ∀ H' G', Ext H G H' G' → B c H'
  | .bad => False
theorem RsI.step {K : PySem.W.Frag} {B : Str → Hp → Prop} {H G H1 G1 : Hp} {R0 : L2.It → Hp → Prop} {r : R (List D)} (h : RsI K B H G R0 r) (e : Ext H G H1 G1) : RsI K B H1 G1 R0 r := by
  cases r with
  | ok d => exact fun J H' G' x p => h J H' G' (e.trans x) p
  | exc c => exact fun H' G' x => h H' G' (e.trans x)
  | bad => exact h
def rdI (K : PySem.W.Frag) (ca : Str → Value) (W : WX) (r : List Sl → R (List D)) : TI := fun σ H R0 => ∃ env G, Same G H ∧ EnvR K G σ env ∧ RsI K (BX ca W σ) H G R0 (r env)
theorem PI.imp {X : Cx} {tg e : Expr} {t t' : TI} (h : PI X tg e t) (i : ∀ σ H R0, t' σ H R0 → t σ H R0) : PI X tg e t' := ⟨fun pins s σ H Q I q => h.run pins s σ H Q I (i _ _ _ q)⟩
section
variable {K : PySem.W.Frag} {ca : Str → Value} {W : WX} {X : Cx}
theorem RsI.bind {B : Str → Hp → Prop} {H G : Hp} {Q : L2.It → Hp → Prop} {N : V → Hp → Prop} {r : R D} {f : D → R (List D)} (h : RsI K B H G Q (r.bind f))
    (n : ∀ x v H1 G1, r = .ok x → Ext H G H1 G1 → Dp K G1 v x → RsI K B H1 G1 Q (f x) → N v H1) : Rs K B H G N r := by
  cases r with
  | ok x => exact fun v H1 G1 e p => n x v H1 G1 rfl e p (RsI.step h e)
  | exc c => exact h
  | bad => exact h
def iSeq (K : PySem.W.Frag) (tl : TE) : TI := fun σ H R0 => tl σ H fun x H1 => (∃ z, x = .str z ∧ R0 (Its z) H1) ∨ ∃ a, x = .ref a ∧ ((∃ xs, SqL K H1 a xs ∧ (xs.length ≤ sizeLine → R0 (Itl K a) H1)) ∨ (∃ xs, SqT K H1 a xs ∧ (xs.length ≤ sizeLine → R0 (Itt K a) H1)))
theorem pi_seq {l tg : Expr} {tl : TE} (hl : PE X l tl) : PI X tg l (iSeq X.K tl) := by
  refine ⟨fun pins s σ H R0 I h => ?_⟩
  refine thn (hl.run pins s σ H _ I h) fun v s1 ⟨x, H1, I1, r1, q1⟩ => ?_
  rcases q1 with ⟨z, e, q1⟩ | ⟨a, e, q1⟩
  · subst e
    obtain ⟨t, rfl⟩ := r1
    cases ha : z.cps.all (· < 128)
    · exact wpAny_pyIter_wide ha (pi_one (tk := s1.toks) I1 _ (turn_str _ z t "str_iterator" (.inr rfl)) ⟨_, Heap.get?_push_size _ rfl, rfl, rfl⟩ q1)
    · exact wpAny_pyIter_ascii ha (pi_one (tk := s1.toks) I1 _ (turn_str _ z t "str_ascii_iterator" (.inl rfl)) ⟨_, Heap.get?_push_size _ rfl, rfl, rfl⟩ q1)
  subst e
  cases r1
  rcases q1 with ⟨xs, hq, q⟩ | ⟨xs, hq, q⟩
  · obtain ⟨its, rv, p, hz⟩ := I1.list hq
    refine wpAny_pyIter_list p.isList ?_
    refine ⟨s1.heap.objs.size, [s1.heap.objs.size], _, _, H1, rfl, I1.kept (t' := s1.toks) fun b o e => Heap.get?_push_of_some _ e, turn_list a _, ⟨_, Heap.get?_push_size _ rfl, rfl, rfl⟩, fun b hb => ?_, q hz⟩
    have e : b = s1.heap.objs.size := by simpa using hb
    subst e
    exact I1.fpOk (Nat.le_refl _) (I1.hok.fresh (Nat.le_refl _))
  · obtain ⟨its, rv, p, hz⟩ := I1.tuple hq
    refine wpAny_pyIter_tuple (show s1.heap.IsTuple a its.toArray from p) ?_
    refine ⟨s1.heap.objs.size, [s1.heap.objs.size], _, _, H1, rfl, I1.kept (t' := s1.toks) fun b o e => Heap.get?_push_of_some _ e, turn_tuple a _, ⟨_, Heap.get?_push_size _ rfl, rfl, rfl⟩, fun b hb => ?_, q hz⟩
    have e : b = s1.heap.objs.size := by simpa using hb
    subst e
    exact I1.fpOk (Nat.le_refl _) (I1.hok.fresh (Nat.le_refl _))
theorem it_seq {l tg : Expr} {r : List Sl → R D} (hl : PE X l (rdE X.K ca W r)) : PI X tg l (rdI X.K ca W fun env => (r env).bind seqR) :=
  PI.imp (pi_seq hl) fun σ H R0 ⟨env, G, hg, he, hm0⟩ => ⟨env, G, hg, he, RsI.bind hm0 fun x v H1 G1 _ e1 hx hm => by
    have s := e1.c
    cases hx with
    | lst q rr => exact .inr ⟨_, rfl, .inl ⟨_, s.seq q, fun hz => hm _ H1 G1 (Ext.refl s) (walkD_list q rr hz)⟩⟩
    | tup q rr => exact .inr ⟨_, rfl, .inr ⟨_, Same.seqT s q, fun hz => hm _ H1 G1 (Ext.refl s) (walkD_tup q rr hz)⟩⟩
    | str z =>
      dsimp only [seqR] at hm
      split at hm
      · exact .inl ⟨z, rfl, hm _ H1 G1 (Ext.refl s) (walkD_str ‹_›)⟩
      · exact hm.elim
    | _ => exact hm.elim⟩

/-! ### argument lists -/
def notStar : Expr → Bool
  | .Starred _ _ => false
  | _ => true
theorem star_cons {e : Expr} {es : List Expr} {env : Env} (h : notStar e = true) : starEach (e :: es) env = (false, eval e env) :: starEach es env := by
  cases e <;> first | rfl | cases h
theorem star_none {env : Env} {pos : Pos} : ∀ {es : List Expr}, es.all notStar = true → (backTo pos (starEach es env)).any (·.1) = false
  | [], _ => rfl
  | e :: es, h => by
    rw [List.all_cons, Bool.and_eq_true] at h
    have ih := star_none (env := env) (pos := pos) h.2
    rw [star_cons h.1]
    show (false || (backTo pos (starEach es env)).any (·.1)) = false
    rw [ih]; rfl
theorem a_nil : PA X [] (rdA X.K ca W fun _ => .ok []) := PA.imp pa_nil fun σ H Q ⟨env, G, s, he, hm⟩ => hm [] H G (Ext.refl s) .nil
theorem a_cons {e : Expr} {es : List Expr} {ra : List Sl → R D} {rb : List Sl → R (List D)} (n : notStar e = true) (ha : PE X e (rdE X.K ca W ra)) (hb : PA X es (rdA X.K ca W rb)) :
    PA X (e :: es) (rdA X.K ca W fun env => (ra env).bind fun x => (rb env).bind fun xs => .ok (x :: xs)) :=
  PA.imp (pa_cons ha hb (star_cons n)) fun σ H Q ⟨env, G, hg, he, hm⟩ => by
    refine ⟨env, G, hg, he, ?_⟩
    dsimp only at hm
    cases ea : ra env with
    | exc c => rw [ea] at hm; exact hm
    | bad => rw [ea] at hm; exact hm
    | ok x =>
      rw [ea] at hm
      intro v H1 G1 e1 p1
      refine ⟨env, G1, e1.c, he.mono e1.b, ?_⟩
      have hm1 := RsA.step hm e1
      dsimp only [R.bind] at hm1
      cases eb : rb env with
      | exc c => rw [eb] at hm1; exact hm1
      | bad => rw [eb] at hm1; exact hm1
      | ok xs =>
        rw [eb] at hm1
        intro vs H2 G2 e2 p2
        exact hm1 (v :: vs) H2 G2 e2 (.cons (dp_mono e2.b p1) p2)

/-! ### nodes -/
structure Both (X : Cx) (ca : Str → Value) (W : WX) (e : Expr) (r : List Sl → R D) : Prop where
  pe : PE X e (rdE X.K ca W r)
  pt : PT X e (rdT X.K ca W r)
theorem rdT_val {r : List Sl → R D} {σ : L2.St} {H : Hp} {Q : Bool → Hp → Prop} (h : rdT K ca W r σ H Q) : rdE K ca W r σ H fun x H1 => ∃ c, x = .bl c ∧ Q c H1 := by
  obtain ⟨env, G, hg, he, hm⟩ := h
  refine ⟨env, G, hg, he, ?_⟩
  cases ha : r env with
  | exc c => rw [ha] at hm; exact hm
  | bad => rw [ha] at hm; exact hm
  | ok d =>
    rw [ha] at hm
    intro v H1 G1 e p
    cases p with
    | bl b => exact ⟨b, rfl, hm H1 G1 e⟩
    | _ => exact hm.elim
theorem both_val {e : Expr} {r : List Sl → R D} (h : PE X e (rdE X.K ca W r)) (he : ∀ whole, isTrue e X.env whole = (do let v ← whole; standAt e.pos; holding [v] (truthy v))) : Both X ca W e r :=
  ⟨h, PT.imp (pt_val h he) fun _ _ _ q => rdT_val q⟩
theorem e_const {e : Expr} {v : V} {d : D} (h : PE X e (tC v)) (hd : ∀ G, Dp X.K G v d) : PE X e (rdE X.K ca W fun _ => .ok d) :=
  PE.imp h fun σ H Q ⟨env, G, s, he, hm⟩ => hm v H G (Ext.refl s) (hd G)
theorem e_var {e : Expr} {i : Nat} (h : PE X e (tVar i)) : PE X e (rdE X.K ca W fun env => getV env i) :=
  PE.imp h fun σ H Q ⟨env, G, s, he, hm⟩ => by
    dsimp only [getV] at hm
    cases q : env[i]? with
    | none => rw [q] at hm; exact hm.elim
    | some z =>
      rw [q] at hm
      cases z with
      | fr d =>
        obtain ⟨v, h1, h2⟩ := he.get i d q
        exact ⟨v, h1, hm v H G (Ext.refl s) h2⟩
      | _ => exact hm.elim
theorem e_tup {es : List Expr} {k : Nat} {pos : Pos} {r : List Sl → R (List D)} (h : PA X es (rdA X.K ca W r)) (hl : es.length ≤ 1000) (hn : ∀ env ds, r env = .ok ds → ds.length = es.length) :
    PE X (.Tuple es k pos) (rdE X.K ca W fun env => (r env).bind fun ds => .ok (.tuple ds)) :=
  PE.imp (pe_tup h) fun σ H Q hh => by
    obtain ⟨env0, G0, s0, he0, hm0⟩ := hh
    refine ⟨env0, G0, s0, he0, ?_⟩
    dsimp only at hm0
    cases ha : r env0 with
    | exc c => rw [ha] at hm0; exact hm0
    | bad => rw [ha] at hm0; exact hm0
    | ok ds =>
      rw [ha] at hm0
      intro vs H1 G1 e p
      refine ⟨by rw [dpAll_len p, hn env0 ds ha, sizeLine_eq]; omega, fun q hq => ?_⟩
      exact Rs.new (Rs.step hm0 e) e.c hq (.tup (SqT.of upd_same) (dpAll_mono (Same.upd (e.c.free hq)) p))
/-- a new list -/
def RsL (K : PySem.W.Frag) (B : Str → Hp → Prop) (H G : Hp) (Q : VK) : R D → Prop
  | .ok (.list ds) => ∀ p vs H' G', Ext H G H' G' → H p = none → G' p = none → H' p = some (.lst vs) → DpAll K G' vs ds → Q (.ref p) H'
  | .ok _ => False
  | .exc c => ∀ H' G', Ext H G H' G' → B c H'
  | .bad => False
def rdL (K : PySem.W.Frag) (ca : Str → Value) (W : WX) (r : List Sl → R D) : TE := fun σ H Q => ∃ env G, Same G H ∧ EnvR K G σ env ∧ RsL K (BX ca W σ) H G Q (r env)
theorem Ext.freeze {H G H' G' : Hp} {p : Addr} {vs : List V} (e : Ext H G H' G') (h1 : H p = none) (h2 : G' p = none) (h3 : H' p = some (.lst vs)) : Ext H G H' (upd G' p (.lst vs)) := by
  refine ⟨e.a, e.b.trans (Same.upd h2), fun b o q => ?_, fun b o q n => ?_⟩
  · by_cases z : b = p
    · subst z; rw [upd_same] at q; cases q; exact h3
    · rw [upd_ne z] at q; exact e.c b o q
  · rw [upd_ne (ne_of_none q h1)]; exact e.d b o q n
theorem e_ofL {e : Expr} {r : List Sl → R D} (h : PE X e (rdL X.K ca W r)) (hl : ∀ env d, r env = .ok d → ∃ l, d = .list l) : PE X e (rdE X.K ca W r) :=
  PE.imp h fun σ H Q ⟨env, G, s, he, hm⟩ => by
    refine ⟨env, G, s, he, ?_⟩
    cases ha : r env with
    | exc c => rw [ha] at hm; exact hm
    | bad => rw [ha] at hm; exact hm
    | ok d =>
      obtain ⟨l, rfl⟩ := hl env d ha
      rw [ha] at hm
      exact fun p vs H' G' x h1 h2 h3 h4 => hm (.ref p) H' _ (x.freeze h1 h2 h3) (.lst (SqL.of upd_same) (dpAll_mono (Same.upd h2) h4))
theorem e_lst {es : List Expr} {pos : Pos} {r : List Sl → R (List D)} (h : PA X es (rdA X.K ca W r)) (hl : es.length ≤ 1000) (hn : ∀ env ds, r env = .ok ds → ds.length = es.length) :
    PE X (.List es pos) (rdL X.K ca W fun env => (r env).bind fun ds => .ok (.list ds)) :=
  PE.imp (pe_lst h) fun σ H Q hh => by
    obtain ⟨env0, G0, s0, he0, hm0⟩ := hh
    refine ⟨env0, G0, s0, he0, ?_⟩
    dsimp only at hm0
    cases ha : r env0 with
    | exc c => rw [ha] at hm0; exact hm0
    | bad => rw [ha] at hm0; exact hm0
    | ok ds =>
      rw [ha] at hm0
      intro vs H1 G1 e p
      refine ⟨by rw [dpAll_len p, hn env0 ds ha, sizeLine_eq]; omega, fun q hq => ?_⟩
      have h0 : H q = none := by
        cases z : H q with
        | none => rfl
        | some o => rw [e.a q o z] at hq; cases hq
      refine hm0 q vs _ G1 ⟨e.a.trans (Same.upd hq), e.b, e.c.trans (Same.upd hq), e.d⟩ h0 (e.c.free hq) upd_same p
theorem e_bin {a b : Expr} {o : Op} {pos : Pos} {ra rb : List Sl → R D} (hp : Pyl X) (ha : PE X a (rdE X.K ca W ra)) (hb : PE X b (rdE X.K ca W rb)) :
    PE X (.BinOp a (opOf o) b pos) (rdE X.K ca W fun env => (ra env).bind fun x => (rb env).bind fun y => opR o x y) := by
  obtain ⟨r, h1, h2⟩ := rule_op hp o
  exact PE.imp (pe_op h1 ha hb) fun σ H Q ⟨env, G, hg, he, hm⟩ => ⟨env, G, hg, he, Rs.bind hm fun x v H1 G1 _ e1 hx hm1 => ⟨env, G1, e1.c, he.mono e1.b, Rs.bind hm1 fun y u H2 G2 _ e2 hy hm2 =>
    h2 _ _ _ _ _ _ _ _ e2.c (dp_mono e2.b hx) hy hm2⟩⟩
theorem RsL.step {B : Str → Hp → Prop} {H G H1 G1 : Hp} {Q : VK} {r : R D} (h : RsL K B H G Q r) (e : Ext H G H1 G1) : RsL K B H1 G1 Q r := by
  cases r with
  | ok d =>
    cases d with
    | list ds =>
      intro p vs H' G' x h1 h2 h3 h4
      refine h p vs H' G' (e.trans x) ?_ h2 h3 h4
      cases z : H p with
      | none => rfl
      | some o => rw [e.a p o z] at h1; cases h1
    | _ => exact h
  | exc c => exact fun H' G' x => h H' G' (e.trans x)
  | bad => exact h
theorem RsL.bind {B : Str → Hp → Prop} {H G : Hp} {Q : VK} {N : VK} {r : R D} {f : D → R D} (h : RsL K B H G Q (r.bind f))
    (n : ∀ x v H1 G1, r = .ok x → Ext H G H1 G1 → Dp K G1 v x → RsL K B H1 G1 Q (f x) → N v H1) : Rs K B H G N r := by
  cases r with
  | ok x => exact fun v H1 G1 e p => n x v H1 G1 rfl e p (RsL.step h e)
  | exc c => exact h
  | bad => exact h
/-- one list and another one, a new list -/
theorem e_catL {a b : Expr} {pos : Pos} {ra rb : List Sl → R D} (ha : PE X a (rdE X.K ca W ra)) (hb : PE X b (rdE X.K ca W rb)) (hl : ∀ env d, rb env = .ok d → ∃ l, d = .list l) :
    PE X (.BinOp a .Add b pos) (rdL X.K ca W fun env => (ra env).bind fun x => (rb env).bind fun y => opR .add x y) :=
  PE.imp (pe_op op_catL ha hb) fun σ H Q ⟨env, G, hg, he, hm⟩ => ⟨env, G, hg, he, RsL.bind hm fun x v H1 G1 _ e1 hx hm1 => ⟨env, G1, e1.c, he.mono e1.b, RsL.bind hm1 fun y u H2 G2 qy e2 hy hm2 => by
    obtain ⟨l, rfl⟩ := hl _ _ qy
    have s := e2.c
    have hx := dp_mono e2.b hx
    cases hx with
    | lst q r =>
      cases hy with
      | lst q2 r2 =>
        dsimp only [opR] at hm2
        split at hm2
        · rename_i hz
          exact ⟨_, _, _, _, rfl, rfl, s.seq q, s.seq q2, by rw [dpAll_len r, dpAll_len r2]; exact hz, fun p hp => hm2 p _ _ G2 ⟨Same.upd hp, Same.refl _, s.trans (Same.upd hp), fun _ _ _ e => e⟩ hp (s.free hp) upd_same (dpAll_app r r2)⟩
        · exact hm2.elim
    | _ => exact hm2.elim⟩⟩
theorem e_neg {a : Expr} {pos : Pos} {ra : List Sl → R D} (ha : PE X a (rdE X.K ca W ra)) :
    PE X (.UnaryOp .USub a pos) (rdE X.K ca W fun env => (ra env).bind fun x => match x with | .int i => .ok (.int (-i)) | _ => .bad) :=
  PE.imp (pe_un un_neg ha) fun σ H Q ⟨env, G, hg, he, hm⟩ => ⟨env, G, hg, he, Rs.bind hm fun x v H1 G1 _ e1 hx hm1 => by
    cases hx with
    | int i => exact ⟨i, rfl, hm1.now e1.c (.int _)⟩
    | _ => exact hm1.elim⟩
theorem e_cmp {a b : Expr} {o : Cm} {pos : Pos} {ra rb : List Sl → R D} (hu : X.A.units + 65 < cLine) (hm0 : behindInMarks (cmOf o) b = false) (ha : PE X a (rdE X.K ca W ra)) (hb : PE X b (rdE X.K ca W rb)) :
    Both X ca W (.Compare a [cmOf o] [b] pos) (fun env => (ra env).bind fun x => (rb env).bind fun y => cmR o x y) := by
  obtain ⟨r, h1, h2⟩ := rule_cm hu o
  refine ⟨PE.imp (pe_cmpR h1 ha hb hm0) fun σ H Q ⟨env, G, hg, he, hm⟩ => ⟨env, G, hg, he, Rs.bind hm fun x v H1 G1 _ e1 hx hm1 => ⟨env, G1, e1.c, he.mono e1.b, Rs.bind hm1 fun y u H2 G2 _ e2 hy hm2 =>
    h2 _ _ _ _ _ _ _ _ e2.c (dp_mono e2.b hx) hy hm2⟩⟩, ?_⟩
  exact PT.imp (pt_cmpR h1 ha hb hm0) fun σ H Q h => by
    obtain ⟨env, G, hg, he, hm⟩ := rdT_val h
    exact ⟨env, G, hg, he, Rs.bind hm fun x v H1 G1 _ e1 hx hm1 => ⟨env, G1, e1.c, he.mono e1.b, Rs.bind hm1 fun y u H2 G2 _ e2 hy hm2 =>
      h2 _ _ _ _ _ _ _ _ e2.c (dp_mono e2.b hx) hy hm2⟩⟩
theorem e_ix {a b : Expr} {pos : Pos} {ra rb : List Sl → R D} (hs : PlainIx b) (ha : PE X a (rdE X.K ca W ra)) (hb : PE X b (rdE X.K ca W rb)) :
    PE X (.Subscript a b pos) (rdE X.K ca W fun env => (ra env).bind fun x => (rb env).bind fun y => ixR x y) :=
  PE.imp (pe_ix ix_seq ha hb hs) fun σ H Q ⟨env, G, hg, he, hm⟩ => ⟨env, G, hg, he, Rs.bind hm fun x v H1 G1 _ e1 hx hm1 => ⟨env, G1, e1.c, he.mono e1.b, Rs.bind hm1 fun y u H2 G2 _ e2 hy hm2 =>
    sem_ix _ _ _ _ _ _ _ _ e2.c (dp_mono e2.b hx) hy hm2⟩⟩
theorem e_not {a : Expr} {pos : Pos} {ra : List Sl → R D} (ha : Both X ca W a ra) : Both X ca W (.UnaryOp .Not a pos) (fun env => (ra env).bind fun x => match x with | .bool b => .ok (.bool (!b)) | _ => .bad) := by
  refine ⟨PE.imp (pe_not ha.pe) fun σ H Q ⟨env, G, hg, he, hm⟩ => ⟨env, G, hg, he, Rs.bind hm fun x v H1 G1 _ e1 hx hm1 => ?_⟩, PT.imp (pt_not ha.pt) fun σ H Q ⟨env, G, hg, he, hm⟩ => ⟨env, G, hg, he, RsT.bindT hm (fun d nd => ?_) fun b H1 G1 _ e1 hm1 => ?_⟩⟩
  · cases hx with
    | bl i => exact ⟨i, rfl, hm1.now e1.c (.bl _)⟩
    | _ => exact hm1.elim
  · cases d <;> first | rfl | exact (nd _ rfl).elim
  · exact hm1 H1 G1 (Ext.refl e1.c)
theorem e_ife {c a b : Expr} {pos : Pos} {rc ra rb : List Sl → R D} (hc : Both X ca W c rc) (ha : Both X ca W a ra) (hb : Both X ca W b rb) :
    PE X (.IfExp c a b pos) (rdE X.K ca W fun env => (rc env).bind fun x => match x with | .bool true => ra env | .bool false => rb env | _ => .bad) :=
  PE.imp (pe_ifExp hc.pt ha.pe hb.pe) fun σ H Q ⟨env, G, hg, he, hm⟩ => ⟨env, G, hg, he, Rs.bindT hm (fun d nd => by cases d <;> first | rfl | exact (nd _ rfl).elim) fun k H1 G1 _ e1 hm1 => by
    cases k with
    | true => rw [if_pos rfl]; exact ⟨env, G1, e1.c, he.mono e1.b, hm1⟩
    | false => rw [if_neg Bool.false_ne_true]; exact ⟨env, G1, e1.c, he.mono e1.b, hm1⟩⟩
theorem t_ife {c a b : Expr} {pos : Pos} {rc ra rb : List Sl → R D} (hc : Both X ca W c rc) (ha : Both X ca W a ra) (hb : Both X ca W b rb) :
    PT X (.IfExp c a b pos) (rdT X.K ca W fun env => (rc env).bind fun x => match x with | .bool true => ra env | .bool false => rb env | _ => .bad) := by
  have key : PT X (.IfExp c a b pos) (fun σ H Q => rdT X.K ca W rc σ H fun k H1 => if k = true then rdT X.K ca W ra σ H1 Q else rdT X.K ca W rb σ H1 Q) := by
    refine ⟨fun pins s σ H Q I h => ?_⟩
    show wpAny _ _ (do if ← isTrue c X.env (eval c X.env) then isTrue a X.env (eval a X.env) else isTrue b X.env (eval b X.env)) _ _ s
    refine wpAny_bind (thn (hc.pt.run pins s σ H _ I h) fun k s1 ⟨H1, I1, q⟩ => ?_)
    cases k with
    | true => rw [if_pos rfl] at q; exact ha.pt.run pins s1 σ H1 Q I1 q
    | false => rw [if_neg Bool.false_ne_true] at q; exact hb.pt.run pins s1 σ H1 Q I1 q
  exact PT.imp key fun σ H Q ⟨env, G, hg, he, hm⟩ => ⟨env, G, hg, he, RsT.bindT hm (fun d nd => by cases d <;> first | rfl | exact (nd _ rfl).elim) fun k H1 G1 _ e1 hm1 => by
    cases k with
    | true => rw [if_pos rfl]; exact ⟨env, G1, e1.c, he.mono e1.b, hm1⟩
    | false => rw [if_neg Bool.false_ne_true]; exact ⟨env, G1, e1.c, he.mono e1.b, hm1⟩⟩
/-- and, or: the first, then the rest -/
structure BothW (X : Cx) (ca : Str → Value) (W : WX) (op : BoolOp) (es : List Expr) (pos : Pos) (r : List Sl → R D) : Prop where
  pe : PE X (.BoolOp op es pos) (rdE X.K ca W r)
  pw : PW X (.BoolOp op es pos) (rdT X.K ca W r)
theorem BothW.both {op : BoolOp} {es : List Expr} {pos : Pos} {r : List Sl → R D} (h : BothW X ca W op es pos r) : Both X ca W (.BoolOp op es pos) r := ⟨h.pe, h.pw.pt⟩
theorem w_one1 {a : Expr} {pos : Pos} {ra : List Sl → R D} (ha : Both X ca W a ra) : BothW X ca W .And [a] pos ra := ⟨pe_one ha.pe, pw_and1 ha.pt⟩
theorem w_one2 {a : Expr} {pos : Pos} {ra : List Sl → R D} (ha : Both X ca W a ra) : BothW X ca W .Or [a] pos ra := ⟨pe_one ha.pe, pw_or1 ha.pt⟩
theorem w_and {a b : Expr} {rest : List Expr} {pos : Pos} {ra rb : List Sl → R D} (ha : Both X ca W a ra) (hb : BothW X ca W .And (b :: rest) pos rb) :
    BothW X ca W .And (a :: b :: rest) pos (fun env => (ra env).bind fun x => match x with | .bool true => rb env | .bool false => .ok (.bool false) | _ => .bad) := by
  refine ⟨PE.imp (pe_and ha.pe hb.pe) fun σ H Q ⟨env, G, hg, he, hm⟩ => ⟨env, G, hg, he, Rs.bind hm fun x v H1 G1 _ e1 hx hm1 => ?_⟩, PW.imp (pw_and ha.pt hb.pw) fun σ H Q ⟨env, G, hg, he, hm⟩ => ⟨env, G, hg, he, RsT.bindT hm (fun d nd => by cases d <;> first | rfl | exact (nd _ rfl).elim) fun k H1 G1 _ e1 hm1 => ?_⟩⟩
  · cases hx with
    | bl k =>
      refine ⟨k, rfl, ?_⟩
      cases k with
      | true => rw [if_pos rfl]; exact ⟨env, G1, e1.c, he.mono e1.b, hm1⟩
      | false => rw [if_neg Bool.false_ne_true]; exact hm1.now e1.c (.bl _)
    | _ => exact hm1.elim
  · cases k with
    | true => rw [if_pos rfl]; exact ⟨env, G1, e1.c, he.mono e1.b, hm1⟩
    | false => rw [if_neg Bool.false_ne_true]; exact hm1 H1 G1 (Ext.refl e1.c)
theorem w_or {a b : Expr} {rest : List Expr} {pos : Pos} {ra rb : List Sl → R D} (ha : Both X ca W a ra) (hb : BothW X ca W .Or (b :: rest) pos rb) :
    BothW X ca W .Or (a :: b :: rest) pos (fun env => (ra env).bind fun x => match x with | .bool true => .ok (.bool true) | .bool false => rb env | _ => .bad) := by
  refine ⟨PE.imp (pe_or ha.pe hb.pe) fun σ H Q ⟨env, G, hg, he, hm⟩ => ⟨env, G, hg, he, Rs.bind hm fun x v H1 G1 _ e1 hx hm1 => ?_⟩, PW.imp (pw_or ha.pt hb.pw) fun σ H Q ⟨env, G, hg, he, hm⟩ => ⟨env, G, hg, he, RsT.bindT hm (fun d nd => by cases d <;> first | rfl | exact (nd _ rfl).elim) fun k H1 G1 _ e1 hm1 => ?_⟩⟩
  · cases hx with
    | bl k =>
      refine ⟨k, rfl, ?_⟩
      cases k with
      | true => rw [if_pos rfl]; exact hm1.now e1.c (.bl _)
      | false => rw [if_neg Bool.false_ne_true]; exact ⟨env, G1, e1.c, he.mono e1.b, hm1⟩
    | _ => exact hm1.elim
  · cases k with
    | true => rw [if_pos rfl]; exact hm1 H1 G1 (Ext.refl e1.c)
    | false => rw [if_neg Bool.false_ne_true]; exact ⟨env, G1, e1.c, he.mono e1.b, hm1⟩
/-- a < b < c -/
theorem e_cmp2 {a b c : Expr} {o o2 : Cm} {pos : Pos} {ra rb rc : List Sl → R D} (hu : X.A.units + 65 < cLine) (h01 : o ≠ .isin ∧ o ≠ .nin) (h02 : o2 ≠ .isin ∧ o2 ≠ .nin) (ha : PE X a (rdE X.K ca W ra)) (hb : PE X b (rdE X.K ca W rb)) (hc : PE X c (rdE X.K ca W rc)) :
    Both X ca W (.Compare a [cmOf o, cmOf o2] [b, c] pos) (fun env => (ra env).bind fun x => (rb env).bind fun y => (cmR o x y).bind fun z => match z with | .bool true => (rc env).bind fun w => cmR o2 y w | .bool false => .ok (.bool false) | _ => .bad) := by
  obtain ⟨r, h1, h2⟩ := rule_cm hu o
  obtain ⟨r', h1', h2'⟩ := rule_cm hu o2
  have mk : lastMarks [cmOf o, cmOf o2] [b, c] = false := by
    show behindInMarks (cmOf o2) c = false
    exact nomark c (by cases o2 <;> first | decide | exact (h02.1 rfl).elim) (by cases o2 <;> first | decide | exact (h02.2 rfl).elim)
  have key : ∀ {σ : L2.St} {H G : Hp} {Q : VK} {env : List Sl}, Same G H → EnvR X.K G σ env → Rs X.K (BX ca W σ) H G Q ((ra env).bind fun x => (rb env).bind fun y => (cmR o x y).bind fun z => match z with | .bool true => (rc env).bind fun w => cmR o2 y w | .bool false => .ok (.bool false) | _ => .bad) →
      tChain r r' (rdE X.K ca W ra) (rdE X.K ca W rb) (rdE X.K ca W rc) σ H Q := fun {σ H G Q env} hg he hm =>
    ⟨env, G, hg, he, Rs.bind hm fun x v H1 G1 _ e1 hx hm1 => ⟨env, G1, e1.c, he.mono e1.b, Rs.bind hm1 fun y u H2 G2 _ e2 hy hm2 =>
      h2 _ _ _ _ _ _ _ _ e2.c (dp_mono e2.b hx) hy (Rs.bind hm2 fun z w H3 G3 ez e3 hz hm3 => by
        obtain ⟨k, rfl⟩ := cm_bool ez
        cases hz
        refine ⟨k, rfl, ?_⟩
        cases k with
        | false => rw [if_neg Bool.false_ne_true]; exact hm3.now e3.c (.bl _)
        | true =>
          rw [if_pos rfl]
          exact ⟨env, G3, e3.c, he.mono (e1.b.trans (e2.b.trans e3.b)), Rs.bind hm3 fun q t H4 G4 _ e4 hq hm4 => h2' _ _ _ _ _ _ _ _ e4.c (dp_mono (e3.b.trans e4.b) hy) hq hm4⟩)⟩⟩
  refine ⟨PE.imp (pe_chain h1 h1' ha hb hc mk) fun σ H Q ⟨env, G, hg, he, hm⟩ => key hg he hm, PT.imp (pt_chain h1 h1' ha hb hc mk) fun σ H Q h => ?_⟩
  obtain ⟨env, G, hg, he, hm⟩ := rdT_val h
  exact key hg he hm
end
end Cw

set_option Elab.async false
set_option linter.all false
set_option maxRecDepth 100000
set_option maxHeartbeats 4000000
namespace Cw
open PySem PySem.Spec PyProof.Rows L2
/-! ### a set of one tuple of tuples of ints -/
section
variable {P : Program} {w : World} {A : Around} {E : Value → Shared → Prop} {s : Shared}
/-- the tuple at b has tuples of ints -/
def IsP (P : Program) (w : World) (h : Heap) (b : Addr) : Prop := ∃ o items n, h.get? b = some o ∧ o.cls = .type "tuple" ∧ o.data = .seq items n ∧ ∀ v ∈ items.toList, ∃ c k, v = Value.ref c ∧ IsT P w h k c
theorem isP_keep {h h' : Heap} {b : Addr} (x : IsP P w h b) (hk : ∀ c o, h.get? c = some o → h'.get? c = some o) : IsP P w h' b := by
  obtain ⟨o, items, n, ho, hc, hd, r⟩ := x
  refine ⟨o, items, n, hk b o ho, hc, hd, fun v hv => ?_⟩
  obtain ⟨c, k, e, t⟩ := r v hv
  exact ⟨c, k, e, isT_keep t hk⟩
theorem nested_ints {h : Heap} {k : List Int} {vs : List Value} (x : ItemsAre (intKind P w) k vs) : NestedAll h (k.map .num) vs := by
  induction x with
  | nil => exact .nil
  | @cons k0 v ks vs h1 _ ih =>
    obtain ⟨t, rfl⟩ := Value.isInt_shape h1
    exact .cons (.int _ _) ih
theorem nested_t {h : Heap} {k : List Int} {c : Addr} (x : IsT P w h k c) : NestedIs h (.tup (k.map .num)) (.ref c) := by
  obtain ⟨o, items, n, ho, hc, hd, r⟩ := x
  exact .tup ho hc hd (nested_ints r)
theorem nested_p {h : Heap} {b : Addr} (x : IsP P w h b) : ∃ ks : List (List Int), NestedIs h (.tup (ks.map fun k => .tup (k.map .num))) (.ref b) := by
  obtain ⟨o, items, n, ho, hc, hd, r⟩ := x
  have key : ∀ vs : List Value, (∀ v ∈ vs, ∃ c k, v = Value.ref c ∧ IsT P w h k c) → ∃ ks : List (List Int), NestedAll h (ks.map fun k => .tup (k.map .num)) vs := by
    intro vs
    induction vs with
    | nil => intro _; exact ⟨[], .nil⟩
    | cons v vs ih =>
      intro r
      obtain ⟨c, k, rfl, t⟩ := r v List.mem_cons_self
      obtain ⟨ks, hks⟩ := ih fun u hu => r u (List.mem_cons_of_mem _ hu)
      exact ⟨k :: ks, .cons (nested_t t) hks⟩
  obtain ⟨ks, hks⟩ := key items.toList r
  exact ⟨ks, .tup ho hc hd hks⟩
theorem dep_nums : ∀ k : List Int, NestedKey.depthAll (k.map .num) ≤ 1
  | [] => by simp [NestedKey.depthAll]
  | x :: k => by
    have := dep_nums k
    simp only [List.map_cons, NestedKey.depthAll, NestedKey.depth]
    omega
theorem dep_tups : ∀ ks : List (List Int), NestedKey.depthAll (ks.map fun k => .tup (k.map .num)) ≤ 3
  | [] => by simp [NestedKey.depthAll]
  | k :: ks => by
    have := dep_tups ks
    have := dep_nums k
    simp only [List.map_cons, NestedKey.depthAll, NestedKey.depth]
    omega
/-- hashing goes -/
theorem hash_p {b : Addr} {Q : Int → Shared → Prop} (hu : A.units + 8 < cLine) (x : IsP P w s.heap b) (h : ∀ n tk, s.toks ≤ tk → Q n { s with toks := tk }) : wpAny (model P w) A (pyHash (.ref b)) Q E s := by
  obtain ⟨ks, hks⟩ := nested_p x
  have d := dep_tups ks
  exact pyHash_key _ _ A s Q hks (by simp only [NestedKey.depth]; omega) (h _ _ (Nat.le_add_right _ _))
theorem hashBy_t {k : List Int} {b : Addr} {Q : Bool → Shared → Prop} (f : Nat) (hk : IsT P w s.heap k b) (h : Q true s) : wpAny (model P w) A (hashByValue (f + 1) (.ref b)) Q E s := by
  have hT := hk.typeIs
  obtain ⟨o, items, n, ho, _, hd, hi⟩ := hk
  unfold hashByValue
  refine wpAny_bind (wpAny_specialOf hT F.slot_tuple_hash.lookup ?_)
  show wpAny _ _ (seqItems? (.ref b) >>= _) _ _ s
  refine wpAny_bind (wpAny_seqItems ho hd (wpAny_bind ?_))
  show wpAny _ _ (forIn items _ _) _ _ s
  rw [← Array.forIn_toList]
  refine wpAny_forIn_list _ (fun rest r s' => r.1 = none ∧ s' = s ∧ ∀ v ∈ rest, ∃ i t, v = Value.int i t) _ ?_ ?_ _ _ ⟨rfl, rfl, items_int hi⟩
  · rintro v rest r s' ⟨hr, rfl, all⟩
    obtain ⟨i, t, rfl⟩ := all v List.mem_cons_self
    rw [hashBy_int]
    refine wpAny_bind (wpAny_pure ?_)
    simp only [Bool.not_true, Bool.false_eq_true, if_false]
    exact wpAny_pure ⟨rfl, rfl, fun u hu => all u (List.mem_cons_of_mem _ hu)⟩
  · rintro ⟨r1, r2⟩ s' ⟨hr, rfl, _⟩
    simp only at hr
    subst hr
    exact wpAny_pure h
theorem hashBy_p {b : Addr} {Q : Bool → Shared → Prop} (f : Nat) (hk : IsP P w s.heap b) (h : Q true s) : wpAny (model P w) A (hashByValue (f + 2) (.ref b)) Q E s := by
  obtain ⟨o, items, n, ho, hc, hd, hi⟩ := hk
  have hT : s.TypeIs (.ref b) "tuple" := ⟨o, ho, hc⟩
  unfold hashByValue
  refine wpAny_bind (wpAny_specialOf hT F.slot_tuple_hash.lookup ?_)
  show wpAny _ _ (seqItems? (.ref b) >>= _) _ _ s
  refine wpAny_bind (wpAny_seqItems ho hd (wpAny_bind ?_))
  show wpAny _ _ (forIn items _ _) _ _ s
  rw [← Array.forIn_toList]
  refine wpAny_forIn_list _ (fun rest r s' => r.1 = none ∧ s' = s ∧ ∀ v ∈ rest, ∃ c k, v = Value.ref c ∧ IsT P w s.heap k c) _ ?_ ?_ _ _ ⟨rfl, rfl, hi⟩
  · rintro v rest r s' ⟨hr, rfl, all⟩
    obtain ⟨c, k, rfl, ht⟩ := all v List.mem_cons_self
    refine wpAny_bind (hashBy_t f ht ?_)
    simp only [Bool.not_true, Bool.false_eq_true, if_false]
    exact wpAny_pure ⟨rfl, rfl, fun u hu => all u (List.mem_cons_of_mem _ hu)⟩
  · rintro ⟨r1, r2⟩ s' ⟨hr, rfl, _⟩
    simp only at hr
    subst hr
    exact wpAny_pure h
/-- a set that was just made -/
def Fresh (w : World) (h : Heap) (a : Addr) : Prop := h.get? a = some { cls := .type "set", dict := none, data := .set #[] 0 (.fresh 0 0 (!w.params.followText "set-order")) }
/-- a set of one -/
def OneS (h : Heap) (a : Addr) : Prop := ∃ o es ep t, h.get? a = some o ∧ o.ExactSet ∧ o.data = .set es ep t ∧ es.size = 1 ∧ t.fits es.size = true
theorem tab0 (b : Bool) : TabOk (.fresh 0 0 b) [] := ⟨List.Pairwise.nil, rfl, rfl, .inl rfl, fun x hx => (by cases hx), fun i h j hi => (by simp at hi)⟩
theorem add_one {a x : Addr} {n : Int} (h0 : Fresh w s.heap a) (hx : IsP P w s.heap x) {Q : Bool → Shared → Prop} (hQ : ∀ b h', Heap.SameBut a s.heap h' → OneS h' a → Q b { s with heap := h' }) :
    wpAny (model P w) A (setAddHashed a (.ref x) n) Q E s := by
  generalize hb : (!w.params.followText "set-order") = bl at h0
  unfold Fresh at h0
  rw [hb] at h0
  have T := tab0 bl
  have fit : (SetTable.fresh 0 0 bl).fits (#[] : Array (Int × Value)).size = true := by cases bl <;> decide
  have hd : ({ cls := .type "set", dict := none, data := .set #[] 0 (.fresh 0 0 bl) } : Obj).data = .set #[] 0 (.fresh 0 0 bl) := rfl
  have ex : ({ cls := .type "set", dict := none, data := .set #[] 0 (.fresh 0 0 bl) } : Obj).ExactSet := ⟨rfl, rfl, rfl⟩
  generalize ({ cls := .type "set", dict := none, data := .set #[] 0 (.fresh 0 0 bl) } : Obj) = o at h0 hd ex
  have gw : ¬ (SetTable.fresh 0 0 bl).gaveWay = true := by cases bl <;> decide
  have pr := go_spec (.fresh 0 0 bl) T.ris T.dm (fun i => ((#[] : Array (Int × Value))[i]?.map (·.1)).getD 0) n (10 * SetTable.turns (SetTable.fresh 0 0 bl).mask) 0 (runAt (SetTable.fresh 0 0 bl).mask (SetTable.bits n % ((SetTable.fresh 0 0 bl).mask + 1)) (SetTable.bits n)) rfl (by show 0 < 10 * SetTable.turns 7; decide) (fun k hk => absurd hk (Nat.not_lt_zero _)) (by intro z; cases z)
  have pr2 : (SetTable.fresh 0 0 bl).probe (fun i => ((#[] : Array (Int × Value))[i]?.map (·.1)).getD 0) n ((none : Option SetTable.Probe).getD ((SetTable.fresh 0 0 bl).probeStart n)) = some (.empty (way (SetTable.fresh 0 0 bl).mask n 0) none) := by
    rcases pr with ⟨k, _, hk, _⟩ | ⟨_, h⟩
    · exact absurd hk (Nat.not_lt_zero _)
    · exact h
  obtain ⟨q1, q2, q3, q4, q5, q6, q7, q8, q9⟩ := T.put (h := n) (K := 0) (by intro z; cases z) (fun k hk => absurd hk (Nat.not_lt_zero _))
  unfold setAddHashed
  refine wpAny_holding ?_
  rw [show (100000 : Nat) = 99999 + 1 from rfl, setAddHashedIn_succ]
  refine wpAny_bind (wpAny_setState_of h0 hd fit ?_)
  dsimp only
  refine wp_if_neg (by simp [byScan, Value.scannable]) ?_
  try refine wpAny_bind (wpAny_pure ?_)
  have srch : ∀ {R : SetFound → Shared → Prop}, R (.free (way (SetTable.fresh 0 0 bl).mask n 0) false) s → wpAny (model P w) A (setSearch a (.ref x) n true) R E s := fun {R} h => by
    unfold setSearch
    rw [show (100000 : Nat) = 99999 + 1 from rfl, setSearchFrom_succ]
    refine wpAny_bind (wpAny_setState_of h0 hd fit ?_)
    dsimp only
    refine wp_if_neg gw ?_
    try refine wpAny_bind (wpAny_pure ?_)
    exact wpAny_pure h
  refine wpAny_bind (srch ?_)
  dsimp only
  refine wpAny_bind (wpAny_setState_of h0 hd fit ?_)
  dsimp only
  generalize hpt : (SetTable.fresh 0 0 bl).put (way (SetTable.fresh 0 0 bl).mask n 0) = pt at q1 q3 q4 q5 q6 q7 q8 q9 ⊢
  obtain ⟨t1, p⟩ := pt
  dsimp only at q1 q3 q4 q5 q6 q7 q8 q9 ⊢
  have pl : t1.plain = true := q6
  first
    | (refine wpAny_bind ?_; refine wp_if_pos pl ?_; refine hashBy_p 6 hx ?_)
    | refine wp_if_pos pl (wpAny_bind (hashBy_p 6 hx ?_))
  simp only [if_true]
  have es1 : (SetTable.insertAt (#[] : Array (Int × Value)) p (n, Value.ref x)).size = 1 := by
    have h := congrArg List.length (SetTable.toList_insertAt (xs := (#[] : Array (Int × Value))) (p := p) (x := (n, Value.ref x)))
    rw [Array.length_toList] at h
    rw [h]
    simp
  generalize SetTable.insertAt (#[] : Array (Int × Value)) p (n, Value.ref x) = es1' at es1 ⊢
  have sz1 : t1.place.size = 1 := by
    have h := q3.sz
    rw [h]
    simp
  have fit1 : t1.fits es1'.size = true := by
    unfold SetTable.fits SetTable.fill
    rw [q3.dm, Bool.and_eq_true, beq_iff_eq, decide_eq_true_eq, es1, sz1, q4]
    exact ⟨rfl, by show 1 + 0 ≤ 7; decide⟩
  refine wpAny_bind (wpAny_storeSet_of h0 hd ?_ (by rw [es1, sizeLine_eq]; omega))
  have sb : Heap.SameBut a s.heap (s.heap.update a (Obj.putSet es1' t1)) := Heap.SameBut.update ..
  have ho1 := store_at (es' := es1') (t' := t1) h0 hd
  generalize s.heap.update a (Obj.putSet es1' t1) = h1 at sb ho1 ⊢
  have hf : ¬ t1.tooFull = true := by
    unfold SetTable.tooFull
    rw [decide_eq_true_eq, q9, q4]
    show ¬ (0 + 1) * 5 ≥ 7 * 3
    decide
  first
    | refine wp_if_neg (by simp [hf]) ?_
    | (refine wpAny_bind ?_; refine wp_if_neg (by simp [hf]) ?_; refine wpAny_pure ?_)
  exact wpAny_pure (hQ true h1 sb ⟨_, es1', _, t1, ho1, ⟨ex.1, ex.2.1, ex.2.2⟩, rfl, es1, fit1⟩)
theorem oneS_keep {h h' : Heap} {a : Addr} (x : OneS h a) (hk : ∀ o, h.get? a = some o → h'.get? a = some o) : OneS h' a := by
  obtain ⟨o, es, ep, t, ho, r⟩ := x
  exact ⟨o, es, ep, t, hk o ho, r⟩
/-- the turn of set.update: one thing, then nothing -/
theorem upd_one {I : Addr} {fp wr : List Addr} {G : Array GenState → Array GenState → Prop} {Pv : Nat → Value → Prop} {St : Nat → Shared → Prop} {R : Result → Shared → Prop}
    (W : WalksS P w A.in1 I fp wr G 1 Pv St) {S x : Addr} (hSf : S ∉ fp) (hval : ∀ v, Pv 0 v → v = .ref x) {h0 : Heap} (hx : IsP P w h0 x) (hS0 : h0.get? S = none) (hw0 : ∀ b ∈ wr, h0.get? b = none)
    (hu : A.in1.units + 8 < cLine) {s : Shared} (st : St 0 s) (hkp : ∀ b o, h0.get? b = some o → s.heap.get? b = some o) (hf : Fresh w s.heap S)
    (hR : ∀ s', Moved (S :: wr) G s s' → OneS s'.heap S → (∀ b o, h0.get? b = some o → s'.heap.get? b = some o) → R (.ok (.ret .none)) s') :
    codeAny (model P w) A (.builtin "set.update.loop" ⟨[.ref S, .ref I], []⟩) R s := by
  have hSw : S ∉ wr := fun h => hSf (W.sub _ h)
  have sub : ∀ b ∈ wr, b ∈ S :: wr := fun b hb => List.mem_cons_of_mem _ hb
  have keep : ∀ {s1 s2 : Shared}, Moved wr G s1 s2 → (∀ b o, h0.get? b = some o → s1.heap.get? b = some o) → ∀ b o, h0.get? b = some o → s2.heap.get? b = some o := fun hm hk b o e =>
    hm.heap b o (fun hb => by rw [hw0 b hb] at e; cases e) (hk b o e)
  refine codeAny_builtin F.entry_set_update_loop ?_
  rw [Around.under_plainId F.plain_set_update_loop _]
  show wpAny _ A.in1 (pyNext (.ref I) >>= _) _ _ s
  refine wpAny_bind (W.item 0 s _ _ (Nat.zero_lt_succ 0) st fun v s1 hP st1 hm => ?_)
  have ev := hval v hP
  subst ev
  have k1 := keep hm hkp
  have f1 : Fresh w s1.heap S := hm.heap S _ hSw hf
  have x1 := isP_keep hx k1
  show wpAny _ A.in1 (holding [Value.ref x] (setAdd S (.ref x)) >>= _) _ _ s1
  refine wpAny_bind (wpAny_holding ?_)
  unfold setAdd
  refine wpAny_holding ?_
  refine wpAny_bind (hash_p hu x1 fun n tk ht => ?_)
  refine add_one (s := { s1 with toks := tk }) f1 x1 fun b h2 sb o2 => ?_
  have k2 : ∀ b o, h0.get? b = some o → h2.get? b = some o := fun b o e => (sb.2 b (fun z => by rw [z, hS0] at e; cases e)).trans (k1 b o e)
  refine wpAny_pure ⟨plainId_quiet F.plain_set_update_loop _, ?_⟩
  refine codeAny_builtin F.entry_set_update_loop ?_
  rw [Around.under_plainId F.plain_set_update_loop _]
  show wpAny _ A.in1 (pyNext (.ref I) >>= _) _ _ _
  have st2 : St 1 { heap := h2, gens := s1.gens, drawn := s1.drawn, toks := tk, os := s1.os } := W.frame 1 s1 h2 tk st1 ht fun b hb o e => (sb.2 b (fun z : b = S => hSf (by rw [← z]; exact hb))).trans e
  refine wpAny_bind (W.done _ _ _ st2 fun s3 hm3 => ?_)
  show wpAny _ A.in1 (ret Value.none) _ _ s3
  refine wpAny_pure (hR s3 (Moved.trans W.gtrans ((hm.mono sub).then_heap ht fun b o hb e => ?_) (hm3.mono sub)) (oneS_keep o2 fun o e => hm3.heap S o hSw e) (keep hm3 k2))
  exact (sb.2 b (fun z : b = S => hb (by rw [z]; exact List.mem_cons_self))).trans e
set_option maxHeartbeats 3200000 in
/-- set(xs), xs a list of one tuple of tuples of ints -/
theorem call_set_one {l x : Addr} {items : Array Value} {Q : Value → Shared → Prop} (hh : A.handled = none) (hl : s.heap.IsList l items) (hit : items.toList = [.ref x]) (hx : IsP P w s.heap x) (hu : A.units + 16 < cLine)
    (h : ∀ (h' : Heap) (tk : Nat), OneS h' s.heap.objs.size → (∀ b o, s.heap.get? b = some o → h'.get? b = some o) → Q (.ref s.heap.objs.size) { s with heap := h', toks := tk }) :
    wpAny (model P w) A (call (.type "set") [.ref l]) Q E s := by
  have hisz : items.size = 1 := by
    have q := congrArg List.length hit
    rw [Array.length_toList] at q
    exact q
  have none_of : ∀ b, s.heap.objs.size ≤ b → s.heap.get? b = none := fun b hb => by
    cases q : s.heap.get? b with
    | none => rfl
    | some o => exact absurd (Nat.lt_of_lt_of_le (Heap.lt_size q) hb) (Nat.lt_irrefl _)
  obtain ⟨c, tl, hmro⟩ := F.called_set.mro
  have hmade := F.called_set.made
  have hsub := F.called_set.sub
  refine wpAny_call (codeAny_of_tree ?_)
  show wpAny _ _ (callAny (.type "set") _) _ _ _
  refine wpAny_pure ⟨Code.quiet_builtin _ (by decide +kernel), codeAny_builtin F.entry_type_call ?_⟩
  rw [Around.under_plain (weight_type_call_type "set" [.ref l] []) rfl]
  have h1 := F.called_set.notType
  have h2 := F.called_set.canCreate
  have hct := F.typeCall_set_1 (.ref l)
  repeat (any_goals (first | assumption | wp_step))
  refine codeAny_mono (code_set_led1 (.ref l) (E := E) (Q₁ := fun obj s₁ => obj = .ref s.heap.objs.size ∧ s₁ = { s with heap := s.heap.push { cls := .type "set", dict := none, data := .set #[] 0 (.fresh 0 0 (!w.params.followText "set-order")) } }) ⟨rfl, rfl⟩) fun r s₁ hr => ?_
  cases r with
  | error e => exact hr
  | ok fl =>
    cases fl with
    | ret obj =>
      obtain ⟨rfl, rfl⟩ := hr
      have hS : Fresh w (s.heap.push { cls := .type "set", dict := none, data := .set #[] 0 (.fresh 0 0 (!w.params.followText "set-order")) }) s.heap.objs.size := Heap.get?_push_size _ rfl
      have hT : Shared.TypeIs { s with heap := s.heap.push { cls := .type "set", dict := none, data := .set #[] 0 (.fresh 0 0 (!w.params.followText "set-order")) } } (.ref s.heap.objs.size) "set" := ⟨_, hS, rfl⟩
      have hli := F.called_set.init.lookup
      have hbi := F.called_set.init.bind (.ref s.heap.objs.size)
      repeat (any_goals (first | assumption | wp_step))
      refine codeAny_mono (codeAny_call_builtin (R := wants (fun r s₂ => r = .none ∧ ∃ h' tk, s₂ = { s with heap := h', toks := tk } ∧ OneS h' s.heap.objs.size ∧
          (∀ b o, s.heap.get? b = some o → h'.get? b = some o)) E) F.called_set.init.plain F.entry_set_init (check_set_init_1 hT ?_)) fun r₂ s₂ hr₂ => ?_
      · obtain ⟨ol, hol, hcl, nl, hdl⟩ := hl
        obtain ⟨ocls, odict, odata, oslots⟩ := ol
        simp only at hcl hdl
        subst hcl hdl
        have hl1 : (s.heap.push { cls := .type "set", dict := none, data := .set #[] 0 (.fresh 0 0 (!w.params.followText "set-order")) }).IsList l items := ⟨_, Heap.get?_push_of_some _ hol, rfl, nl, rfl⟩
        have hol' := Heap.get?_push_of_some { cls := .type "set", dict := none, data := .set #[] 0 (.fresh 0 0 (!w.params.followText "set-order")) } hol
        have hsls := F.sub_list_set
        have hslf := F.sub_list_frozenset
        have hne : (Value.type "list" == Value.type "dict") = false := by decide
        unfold Builtin.«set.__init__» noKeywords Builtin.Frozenset.updateFrom
        generalize hPI : pyIter = PI
        wp_walk
        subst hPI
        refine wpAny_pyIter_list hl1 ?_
        refine wpAny_bind (wpAny_runValue ?_)
        have hlS : l < s.heap.objs.size := Heap.lt_size hol
        have hz1 : (s.heap.push { cls := .type "set", dict := none, data := .set #[] 0 (.fresh 0 0 (!w.params.followText "set-order")) }).objs.size = s.heap.objs.size + 1 := Heap.size_push ..
        have hneI : l ≠ (s.heap.push { cls := .type "set", dict := none, data := .set #[] 0 (.fresh 0 0 (!w.params.followText "set-order")) }).objs.size := by rw [hz1]; exact Nat.ne_of_lt (Nat.lt_succ_of_lt hlS)
        have hh3 : A.in1.in1.in1.handled = none := by simp [hh]
        have W := (Walks.list (prog := P) (w := w) hh3 _ l hneI items).toS
        rw [hisz] at W
        refine upd_one (x := x) W (S := s.heap.objs.size) ?_ ?_ hx (none_of _ (Nat.le_refl _)) (fun b hb => none_of b (by
            rw [List.mem_singleton.mp hb, hz1]
            exact Nat.le_succ _)) (by show _ < _; have : A.in1.in1.in1.units = A.units + 3 := by simp [Nat.add_assoc]
                                      omega) ⟨⟨_, Heap.get?_push_size _ rfl, rfl, rfl⟩, hl1.push _⟩ (fun b o e => Heap.get?_push_of_some _ (Heap.get?_push_of_some _ e)) (Heap.get?_push_of_some _ hS) ?_
        · simp only [List.mem_cons, List.not_mem_nil, or_false, not_or]
          exact ⟨by rw [hz1]; exact Nat.ne_of_lt (Nat.lt_succ_self _), Nat.ne_of_gt hlS⟩
        · intro v hv
          have q : items.toList[0]? = some v := by rw [Array.getElem?_toList]; exact hv
          rw [hit] at q
          exact (Option.some.inj q).symm
        · intro s' hm o1 hkp
          obtain ⟨h', g2, d', tk', os'⟩ := s'
          have eg : g2 = s.gens := hm.gens
          have ed : d' = s.drawn := hm.drawn
          have eo : os' = s.os := hm.os
          subst eg ed eo
          show wpAny _ _ _ _ _ _
          refine wpAny_pure ?_
          show wpAny _ _ (ret Value.none) _ _ _
          exact wpAny_pure ⟨rfl, h', tk', rfl, o1, hkp⟩
      · cases r₂ with
        | error e => exact hr₂
        | ok fl₂ =>
          cases fl₂ with
          | ret r =>
            obtain ⟨rfl, h', tk, rfl, o1, k1⟩ := hr₂
            repeat (any_goals (first | assumption | wp_step))
            exact h _ _ o1 k1
          | _ => exact hr₂.elim
    | _ => exact hr.elim
end
end Cw

set_option Elab.async false
set_option linter.all false
set_option maxRecDepth 100000
set_option maxHeartbeats 4000000
namespace Cw
open PySem PySem.Spec PyProof.Rows L2

section
variable {K : PySem.W.Frag} {ca : Str → Value} {W : WX} {X : Cx}
/-! ### slices -/
def RsO (B : Str → Hp → Prop) (H G : Hp) (Q : Option Int → Hp → Prop) : R (Option Int) → Prop
  | .ok d => ∀ H' G', Ext H G H' G' → Q d H'
  | .exc c => ∀ H' G', Ext H G H' G' → B c H'
  | .bad => False
def rdO (K : PySem.W.Frag) (ca : Str → Value) (W : WX) (r : List Sl → R (Option Int)) : TO := fun σ H Q => ∃ env G, Same G H ∧ EnvR K G σ env ∧ RsO (BX ca W σ) H G Q (r env)
theorem PO.imp {e : Option Expr} {t t' : TO} (h : PO X e t) (i : ∀ σ H Q, t' σ H Q → t σ H Q) : PO X e t' := ⟨fun pins s σ H Q I q => h.run pins s σ H Q I (i _ _ _ q)⟩
theorem o_none : PO X none (rdO X.K ca W fun _ => .ok none) := PO.imp po_none fun σ H Q ⟨env, G, hg, he, hm⟩ => hm H G (Ext.refl hg)
theorem o_some {e : Expr} {r : List Sl → R D} (h : PE X e (rdE X.K ca W r)) : PO X (some e) (rdO X.K ca W fun env => (r env).bind fun x => match x with | .int i => .ok (some i) | _ => .bad) :=
  PO.imp (po_some h) fun σ H Q ⟨env, G, hg, he, hm⟩ => by
    refine ⟨env, G, hg, he, ?_⟩
    dsimp only at hm
    cases ha : r env with
    | exc c => rw [ha] at hm; exact hm
    | bad => rw [ha] at hm; exact hm
    | ok d =>
      rw [ha] at hm
      intro v H1 G1 e p
      cases p with
      | int i => exact ⟨i, rfl, hm H1 G1 e⟩
      | _ => exact hm.elim
theorem RsO.bind {B : Str → Hp → Prop} {H G : Hp} {Q : VK} {N : Option Int → Hp → Prop} {r : R (Option Int)} {f : Option Int → R D} (h : Rs K B H G Q (r.bind f))
    (n : ∀ x H1 G1, r = .ok x → Ext H G H1 G1 → Rs K B H1 G1 Q (f x) → N x H1) : RsO B H G N r := by
  cases r with
  | ok x => exact fun H1 G1 e => n x H1 G1 rfl e (Rs.step h e)
  | exc c => exact h
  | bad => exact h
theorem e_sl {a : Expr} {lo hi : Option Expr} {p2 pos : Pos} {ra : List Sl → R D} {rl rh : List Sl → R (Option Int)} (ha : PE X a (rdE X.K ca W ra)) (hl : PO X lo (rdO X.K ca W rl)) (hh : PO X hi (rdO X.K ca W rh)) :
    PE X (.Subscript a (.Slice lo hi none p2) pos) (rdE X.K ca W fun env => (ra env).bind fun x => (rl env).bind fun l => (rh env).bind fun u => slR x l u) :=
  PE.imp (pe_slice rule_sl ha hl hh) fun σ H Q ⟨env, G, hg, he, hm⟩ => ⟨env, G, hg, he, Rs.bind hm fun x v H1 G1 _ e1 hx hm1 => ⟨env, G1, e1.c, he.mono e1.b, RsO.bind hm1 fun l H2 G2 _ e2 hm2 =>
    ⟨env, G2, e2.c, he.mono (e1.b.trans e2.b), RsO.bind hm2 fun u H3 G3 _ e3 hm3 => sem_sl e3.c (dp_mono (e2.b.trans e3.b) hx) hm3⟩⟩⟩

/-! ### calls -/
theorem e_call {x : Str} {id : Value} {e : Expr} {es : List Expr} {p pos : Pos} {r : List Sl → R (List D)} {f : List D → R D} {rr : List V → Hp → VK → Prop} (h : PE X (.Call (.Name x p) (e :: es) [] pos) (tCB rr (rdA X.K ca W r))) (hs : SemCall X.K rr f) :
    PE X (.Call (.Name x p) (e :: es) [] pos) (rdE X.K ca W fun env => (r env).bind f) :=
  PE.imp h fun σ H Q ⟨env, G, hg, he, hm⟩ => ⟨env, G, hg, he, RsA.bind hm fun xs vs H1 G1 _ e1 hx hm1 => hs _ _ _ _ _ _ e1.c hx hm1⟩
theorem e_bf {f : Bf} {e : Expr} {es : List Expr} {p pos : Pos} {r : List Sl → R (List D)} (hc : X.calm = true) (hg : Gl X (bfName f)) (hm : X.mg (bfName f) = none) (n : (e :: es).all notStar = true) (ha : PA X (e :: es) (rdA X.K ca W r)) :
    PE X (.Call (.Name (bfName f) p) (e :: es) [] pos) (rdE X.K ca W fun env => (r env).bind (bfR f)) := by
  obtain ⟨rr, h1, h2⟩ := rule_bf hc f
  rw [List.all_cons, Bool.and_eq_true] at n
  have hv := bf_boot f
  have hn := bf_name f
  have hd := bf_dbg f
  have s1 := star_cons (env := X.env) (es := es) n.1
  have s2 := star_none (env := X.env) (pos := pos) n.2
  cases f with
  | int => exact e_call (id := .none) (pe_callTy h1 hg hm hv ha hn hd s1 s2) h2
  | tuple => exact e_call (id := .none) (pe_callTy h1 hg hm hv ha hn hd s1 s2) h2
  | list => exact e_call (id := .none) (pe_callTy h1 hg hm hv ha hn hd s1 s2) h2
  | _ => exact e_call (id := .none) (pe_callB h1 hg hm hv ha hn hd s1 s2) h2
theorem e_isi {a : Expr} {t : Ty} {p p2 pos : Pos} {ra : List Sl → R D} (hg : Gl X "isinstance") (hm : X.mg "isinstance" = none) (hg2 : Gl X (Str.ofString (tyName t))) (hm2 : X.mg (Str.ofString (tyName t)) = none) (n : notStar a = true) (ha : PE X a (rdE X.K ca W ra)) :
    PE X (.Call (.Name "isinstance" p) [a, .Name (Str.ofString (tyName t)) p2] [] pos) (rdE X.K ca W fun env => (ra env).bind fun x => isiR t x) := by
  have hT : PE X (.Name (Str.ofString (tyName t)) p2) (tC (.ty (tyName t))) := pe_bltn hg2 hm2 (ty_boot t) rfl (ty_name t) (ty_dbg t)
  have hA : PA X [a, .Name (Str.ofString (tyName t)) p2] (tCons (rdE X.K ca W ra) (tCons (tC (.ty (tyName t))) tNil)) := pa_cons ha (pa_cons hT pa_nil rfl) (star_cons n)
  refine PE.imp (pe_callB call_isi hg hm boot_isinstance hA (by decide +kernel) (by decide +kernel) (star_cons n) rfl) fun σ H Q ⟨env, G, hg, he, hm⟩ => ⟨env, G, hg, he, Rs.bind hm fun x v H1 G1 _ e1 hx hm1 => ?_⟩
  exact sem_isi e1.c hx hm1

/-! ### calls of defs -/
/-- what the def numbered i promises, within n calls -/
def spF (T : Nat → Option Def) (ca : Str → Value) (K : PySem.W.Frag) (n i : Nat) : Sp := fun vs H Q E => ∃ ds G, Same G H ∧ DpAll K G vs ds ∧ Rs K (BXE ca E) H G Q (evc T n i ds)
theorem e_def {T : Nat → Option Def} {n i k : Nat} {x : Str} {f : Addr} {fd : FuncData} {ps : List Str} {e : Expr} {es : List Expr} {p pos : Pos} {r : List Sl → R (List D)} (F : FnOk X.prog X.w X.K X.mg X.base (L2N.CX X.prog X.w) k f fd ps (spF T ca X.K n i)) (hr : Room k X.A) (hg : Gl X x) (hm : X.mg x = some (.ref f)) (hk : PySem.W.keepIn X.K (.ref f) = true) (hb : Binds X.K fd ps [])
    (tk : L2N.Takes X W) (hd : (x == ("__debug__" : Str)) = false) (ns : (e :: es).all notStar = true) (ha : PA X (e :: es) (rdA X.K ca W r)) :
    PE X (.Call (.Name x p) (e :: es) [] pos) (rdE X.K ca W fun env => (r env).bind (evc T n i)) := by
  rw [List.all_cons, Bool.and_eq_true] at ns
  refine PE.imp (pe_callS F hr hg hm hk hb (fun σ => L2N.passAt tk σ) ha hd (star_cons ns.1) (star_none ns.2)) fun σ H Q ⟨env, G, hg, he, hm⟩ => ⟨env, G, hg, he, RsA.bind hm fun xs vs H1 G1 _ e1 hx hm1 => ?_⟩
  exact ⟨xs, G1, e1.c, hx, hm1⟩

/-- what the def numbered i with a lent list promises, within n calls -/
def RsLn (K : PySem.W.Frag) (H G : Hp) (p : Addr) (Q : VK) : R (D × List D) → Prop
  | .ok r => ∀ v H' G' ws, Ext (del H p) G (del H' p) G' → H' p = some (.lst ws) → DpAll K G' ws r.2 → G' p = none → Dp K G' v r.1 → Q v H'
  | _ => False
def spL (T : Nat → Option Def) (K : PySem.W.Frag) (n i : Nat) : Sp := fun vs H Q E => ∃ v p ws es d G, vs = [v, .ref p] ∧ H p = some (.lst ws) ∧ DpAll K G ws es ∧ G p = none ∧ Same G H ∧ Dp K G v d ∧ RsLn K H G p Q (metL (evc T n i [d, .list es]))
theorem metL_exc {r : R D} {c : Str} : metL r ≠ .exc c := by
  intro h
  unfold metL at h
  split at h <;> cases h
theorem metL_ok {r : R D} {x : D × List D} (h : metL r = .ok x) : r = .ok (.tuple [x.1, .list x.2]) := by
  unfold metL at h
  split at h
  · cases h; rfl
  · cases h
theorem Ext.madeL {H G H' G' : Hp} {q : Addr} {o : HO} (n1 : H q = none) (e : Ext (del (upd H q o) q) G (del H' q) G') : Ext H G H' G' := by
  have k : ∀ (b : Addr) (u : HO), H b = some u → del (upd H q o) q b = some u := fun b u h => by
    have h1 : b ≠ q := ne_of_none h n1
    rw [del_ne h1, upd_ne h1]
    exact h
  exact ⟨fun b u h => (del_some (e.a b u (k b u h))).2, e.b, fun b u h => (del_some (e.c b u h)).2, fun b u h n => e.d b u (k b u h) n⟩
theorem e_cln {T : Nat → Option Def} {n i k : Nat} {x : Str} {f : Addr} {fd : FuncData} {ps : List Str} {e : Expr} {p lp pos : Pos} {r : List Sl → R D} (F : FnOk X.prog X.w X.K X.mg X.base (L2N.CX X.prog X.w) k f fd ps (spL T X.K n i)) (hr : Room k X.A) (hg : Gl X x) (hm : X.mg x = some (.ref f)) (hk : PySem.W.keepIn X.K (.ref f) = true) (hb : Binds X.K fd ps [])
    (tk : L2N.Takes X W) (hd : (x == ("__debug__" : Str)) = false) (ns : notStar e = true) (ha : PE X e (rdE X.K ca W r)) :
    PE X (.Call (.Name x p) [e, .List [] lp] [] pos) (rdE X.K ca W fun env => (r env).bind fun d => (metL (evc T n i [d, .list []])).bind fun r => .ok r.1) := by
  have hA : PA X [e, .List [] lp] (tCons (rdE X.K ca W r) (tCons _ tNil)) := pa_cons ha (pa_cons (pe_lst pa_nil) pa_nil rfl) (star_cons ns)
  refine PE.imp (pe_callS F hr hg hm hk hb (fun σ => L2N.passAt tk σ) hA hd (star_cons ns) (star_none rfl)) fun σ H Q ⟨env, G, hg, he, hm⟩ => ⟨env, G, hg, he, Rs.bind hm fun d v H1 G1 _ e1 hx hm1 => ?_⟩
  refine ⟨Nat.zero_le _, fun q hq => ?_⟩
  refine ⟨v, q, [], [], d, G1, rfl, upd_same, .nil, e1.c.free hq, e1.c.trans (Same.upd hq), hx, ?_⟩
  cases er : metL (evc T n i [d, .list []]) with
  | ok r =>
    rw [er] at hm1
    exact fun v' H' G' ws y h1 h2 h3 h4 => hm1 v' H' G' (Ext.madeL hq y) h4
  | exc c => exact (metL_exc er).elim
  | bad => rw [er] at hm1; exact hm1.elim

/-! ### things walked -/
theorem it_rng1 {a tg : Expr} {p pos : Pos} {ra : List Sl → R D} (hg : Gl X "range") (hm : X.mg "range" = none) (n : notStar a = true) (ha : PE X a (rdE X.K ca W ra)) :
    PI X tg (.Call (.Name "range" p) [a] [] pos) (rdI X.K ca W fun env => (ra env).bind fun x => match x with | .int j => rngR 0 j | _ => .bad) := by
  have hA : PA X [a] (tCons (rdE X.K ca W ra) tNil) := pa_cons ha pa_nil (star_cons n)
  refine PI.imp (pi_range1 hg hm hA (star_cons n)) fun σ H R0 ⟨env, G, hg, he, hm⟩ => ⟨env, G, hg, he, RsI.bind hm fun x v H1 G1 _ e1 hx hm1 => ?_⟩
  cases hx with
  | int j =>
    dsimp only [rngR] at hm1
    split at hm1
    · rename_i hc
      obtain ⟨_, _, h3, h4, h5⟩ := hc
      refine ⟨j, rfl, h3, h4, ?_⟩
      have e : (j - 0).toNat = j.toNat := by omega
      rw [e] at hm1
      exact hm1 _ H1 G1 (Ext.refl e1.c) (walkD_range (by omega))
    · exact hm1.elim
  | _ => exact hm1.elim
theorem it_rng2 {a b tg : Expr} {p pos : Pos} {ra rb : List Sl → R D} (hg : Gl X "range") (hm : X.mg "range" = none) (n : notStar a = true) (n2 : notStar b = true) (ha : PE X a (rdE X.K ca W ra)) (hb : PE X b (rdE X.K ca W rb)) :
    PI X tg (.Call (.Name "range" p) [a, b] [] pos) (rdI X.K ca W fun env => (ra env).bind fun x => (rb env).bind fun y => match x, y with | .int i, .int j => rngR i j | _, _ => .bad) := by
  have hA : PA X [a, b] (tCons (rdE X.K ca W ra) (tCons (rdE X.K ca W rb) tNil)) := pa_cons ha (pa_cons hb pa_nil (star_cons n2)) (star_cons n)
  have st : starEach [a, b] X.env = [(false, eval a X.env), (false, eval b X.env)] := by rw [star_cons n, star_cons n2]; rfl
  refine PI.imp (pi_range2 hg hm hA st (star_cons n2)) fun σ H R0 ⟨env, G, hg, he, hm⟩ => ⟨env, G, hg, he, RsI.bind hm fun x v H1 G1 _ e1 hx hm1 => ⟨env, G1, e1.c, he.mono e1.b, RsI.bind hm1 fun y u H2 G2 _ e2 hy hm2 => ?_⟩⟩
  cases hx with
  | int i => cases hy with
    | int j =>
      dsimp only [rngR] at hm2
      split at hm2
      · rename_i hc
        obtain ⟨h1, h2, h3, h4, h5⟩ := hc
        exact ⟨i, j, rfl, ⟨h1, h2, h3, h4⟩, hm2 _ H2 G2 (Ext.refl e2.c) (walkD_range (by omega))⟩
      · exact hm2.elim
    | _ => exact hm2.elim
  | _ => cases hy <;> exact hm2.elim
theorem walkD_rngC {K : PySem.W.Frag} {G : Hp} {lo c : Int} {n : Nat} (hn : n ≤ 1000000) : WalkD K (Itc lo c n) G ((List.range n).map fun (k : Nat) => (.int (lo + (k : Int) * c) : D)) := by
  have e : ((List.range n).map fun (k : Nat) => (.int (lo + (k : Int) * c) : D)).length = n := by rw [List.length_map, List.length_range]
  refine ⟨by rw [e, sizeLine_eq]; omega, fun i H hi s => ?_, fun H s => ?_, fun i H x H' G1 hi s s1 y => ?_⟩
  · rw [e] at hi; exact hi
  · rw [e]; exact Nat.le_refl _
  · obtain ⟨rfl, rfl⟩ := y
    rw [e] at hi
    refine ⟨_, G1, ?_, Ext.refl s1, .int (lo + (i : Int) * c)⟩
    rw [List.getElem?_map, List.getElem?_range hi]; rfl
theorem it_rng3 {a b c tg : Expr} {p pos : Pos} {ra rb rc : List Sl → R D} (hg : Gl X "range") (hm : X.mg "range" = none) (n : notStar a = true) (n2 : notStar b = true) (n3 : notStar c = true) (ha : PE X a (rdE X.K ca W ra)) (hb : PE X b (rdE X.K ca W rb)) (hc : PE X c (rdE X.K ca W rc)) :
    PI X tg (.Call (.Name "range" p) [a, b, c] [] pos) (rdI X.K ca W fun env => (ra env).bind fun x => (rb env).bind fun y => (rc env).bind fun z => match x, y, z with | .int i, .int j, .int k => rngC i j k | _, _, _ => .bad) := by
  have hA : PA X [a, b, c] (tCons (rdE X.K ca W ra) (tCons (rdE X.K ca W rb) (tCons (rdE X.K ca W rc) tNil))) := pa_cons ha (pa_cons hb (pa_cons hc pa_nil (star_cons n3)) (star_cons n2)) (star_cons n)
  refine PI.imp (pi_range3 hg hm hA (star_cons n) (star_none (by rw [List.all_cons, n2, List.all_cons, n3]; rfl))) fun σ H R0 ⟨env, G, hg, he, hm⟩ => ⟨env, G, hg, he, RsI.bind hm fun x v H1 G1 _ e1 hx hm1 => ⟨env, G1, e1.c, he.mono e1.b, RsI.bind hm1 fun y u H2 G2 _ e2 hy hm2 => ⟨env, G2, e2.c, (he.mono e1.b).mono e2.b, RsI.bind hm2 fun z w H3 G3 _ e3 hz hm3 => ?_⟩⟩⟩
  cases hx with
  | int i => cases hy with
    | int j => cases hz with
      | int k =>
        dsimp only [rngC] at hm3
        split at hm3
        · rename_i hc
          obtain ⟨h1, h2, h3, h4, h5⟩ := hc
          exact ⟨i, j, k, _, rfl, ⟨h1, h2, h3, h4⟩, hm3 _ H3 G3 (Ext.refl e3.c) (walkD_rngC h5)⟩
        · exact hm3.elim
      | _ => exact hm3.elim
    | _ => cases hz <;> exact hm3.elim
  | _ => cases hy <;> cases hz <;> exact hm3.elim
theorem it_enum {a : Expr} {elts : List Expr} {kk : Nat} {tpos p pos : Pos} {ra : List Sl → R D} (hg : Gl X "enumerate") (hm : X.mg "enumerate" = none) (n : notStar a = true) (ha : PE X a (rdE X.K ca W ra)) :
    PI X (.Tuple elts kk tpos) (.Call (.Name "enumerate" p) [a] [] pos) (rdI X.K ca W fun env => (ra env).bind enumR) := by
  have hA : PA X [a] (tCons (rdE X.K ca W ra) tNil) := pa_cons ha pa_nil (star_cons n)
  refine PI.imp (pi_enumA hg hm hA (star_cons n)) fun σ H R0 ⟨env, G, hg, he, hm⟩ => ⟨env, G, hg, he, RsI.bind hm fun x v H1 G1 _ e1 hx hm1 => ?_⟩
  cases hx with
  | lst q r =>
    dsimp only [enumR] at hm1
    split at hm1
    · exact ⟨_, _, rfl, .inl ⟨e1.c.seq q, hm1 _ H1 G1 (Ext.refl e1.c) (walkD_enum q r ‹_›)⟩⟩
    · exact hm1.elim
  | tup q r =>
    dsimp only [enumR] at hm1
    split at hm1
    · exact ⟨_, _, rfl, .inr ⟨Same.seqT e1.c q, hm1 _ H1 G1 (Ext.refl e1.c) (walkD_enumT q r ‹_›)⟩⟩
    · exact hm1.elim
  | _ => exact hm1.elim
theorem it_zip {a b : Expr} {elts : List Expr} {kk : Nat} {tpos p pos : Pos} {ra rb : List Sl → R D} (hg : Gl X "zip") (hm : X.mg "zip" = none) (n : notStar a = true) (n2 : notStar b = true) (ha : PE X a (rdE X.K ca W ra)) (hb : PE X b (rdE X.K ca W rb)) :
    PI X (.Tuple elts kk tpos) (.Call (.Name "zip" p) [a, b] [] pos) (rdI X.K ca W fun env => (ra env).bind fun x => (rb env).bind fun y => zipR x y) := by
  have hA : PA X [a, b] (tCons (rdE X.K ca W ra) (tCons (rdE X.K ca W rb) tNil)) := pa_cons ha (pa_cons hb pa_nil (star_cons n2)) (star_cons n)
  have s2 : (backTo pos (starEach [b] X.env)).any (·.1) = false := star_none (by rw [List.all_cons, n2]; rfl)
  refine PI.imp (RZ.pi_zipA hg hm hA (star_cons n) s2) fun σ H R0 ⟨env, G, hg, he, hm⟩ => ⟨env, G, hg, he, RsI.bind hm fun x v H1 G1 _ e1 hx hm1 => ⟨env, G1, e1.c, he.mono e1.b, RsI.bind hm1 fun y u H2 G2 _ e2 hy hm2 => ?_⟩⟩
  have hx2 := dp_mono e2.b hx
  cases hx2 with
  | lst q r => cases hy with
    | lst q2 r2 =>
      dsimp only [zipR] at hm2
      split at hm2
      · exact ⟨_, _, _, _, rfl, .inl ⟨e2.c.seq q, e2.c.seq q2, hm2 _ H2 G2 (Ext.refl e2.c) (walkD_zipL q r q2 r2 ‹_›)⟩⟩
      · exact hm2.elim
    | _ => exact hm2.elim
  | tup q r => cases hy with
    | tup q2 r2 =>
      dsimp only [zipR] at hm2
      split at hm2
      · exact ⟨_, _, _, _, rfl, .inr ⟨Same.seqT e2.c q, Same.seqT e2.c q2, hm2 _ H2 G2 (Ext.refl e2.c) (walkD_zipT q r q2 r2 ‹_›)⟩⟩
      · exact hm2.elim
    | _ => exact hm2.elim
  | _ => cases hy <;> exact hm2.elim

/-! ### targets -/
def gMany : List Nat → TGs
  | [] => gNil
  | i :: l => gCons (gName i) (gMany l)
def gT (K : PySem.W.Frag) : Tg → TG
  | .one i => gName i
  | .many l => gTup K l.length (gMany l)
theorem many_ok {G H : Hp} {Q : L2.St → Hp → Prop} : ∀ {l : List Nat} {ds : List D} {vs : List V} {σ : L2.St} {env e2 : List Sl}, EnvR K G σ env → DpAll K G vs ds → setMany env l ds = .ok e2 → (∀ σ2, EnvR K G σ2 e2 → (∀ vs', (∀ i ∈ l, i ∈ vs') → L2.wipe σ2 vs' = L2.wipe σ vs') → Q σ2 H) → gMany l vs σ H Q
  | [], ds, vs, σ, env, e2, he, r, h, q => by
    cases r with
    | nil =>
      cases h
      exact ⟨rfl, q σ he fun _ _ => rfl⟩
    | cons _ _ => cases h
  | i :: l, ds, vs, σ, env, e2, he, r, h, q => by
    cases r with
    | nil => cases h
    | cons a b =>
      refine ⟨_, _, rfl, ?_⟩
      refine many_ok (he.set a) b h fun σ2 h2 w => q σ2 h2 fun vs' hv => ?_
      rw [w vs' fun j hj => hv j (List.mem_cons_of_mem _ hj)]
      exact wipe_set _ (hv i List.mem_cons_self)
where
  wipe_set {σ : L2.St} {i : Nat} {o : Option V} : ∀ (vs : List Nat), i ∈ vs → L2.wipe (σ.set i o) vs = L2.wipe σ vs
    | [], h => nomatch h
    | v :: vs, h => by
      unfold L2.wipe
      by_cases z : i ∈ vs
      · rw [wipe_set vs z]
      · have e : i = v := by
          rcases List.mem_cons.mp h with e | e
          · exact e
          · exact (z e).elim
        subst e
        have c : ∀ (vs : List Nat), i ∉ vs → L2.wipe (σ.set i o) vs = (L2.wipe σ vs).set i o := by
          intro vs
          induction vs with
          | nil => intro _; rfl
          | cons u us ih =>
            intro hn
            have hu : u ≠ i := fun e => hn (by rw [e]; exact List.mem_cons_self)
            unfold L2.wipe
            rw [ih fun z => hn (List.mem_cons_of_mem _ z), List.set_comm _ _ (Ne.symm hu)]
        rw [c vs z, List.set_set]
theorem gT_ok {G H : Hp} {Q : L2.St → Hp → Prop} {t : Tg} {d : D} {v : V} {σ : L2.St} {env e2 : List Sl} (s : Same G H) (he : EnvR K G σ env) (r : Dp K G v d) (h : setT env t d = .ok e2)
    (q : ∀ σ2, EnvR K G σ2 e2 → (∀ vs', (∀ i ∈ (match t with | .one i => [i] | .many l => l), i ∈ vs') → L2.wipe σ2 vs' = L2.wipe σ vs') → Q σ2 H) : gT K t v σ H Q := by
  cases t with
  | one i =>
    cases h
    exact q _ (he.set r) fun vs' hv => many_ok.wipe_set _ (hv i List.mem_cons_self)
  | many l =>
    cases r with
    | tup q0 r0 =>
      have hl : ∀ {l : List Nat} {ds : List D} {env e2 : List Sl}, setMany env l ds = .ok e2 → ds.length = l.length := by
        intro l
        induction l with
        | nil => intro ds env e2 h; cases ds with
          | nil => rfl
          | cons _ _ => cases h
        | cons i l ih => intro ds env e2 h; cases ds with
          | nil => cases h
          | cons d ds => rw [List.length_cons, List.length_cons, ih h]
      exact ⟨_, _, rfl, Same.seqT s q0, by rw [dpAll_len r0, hl h], many_ok he r0 h q⟩
    | _ => cases h

/-! ### comprehensions -/
theorem lcGo_cons {f : D → R (Option D)} {d : D} {ds l : List D} (h : lcGo f (d :: ds) = .ok l) : ∃ o r, f d = .ok o ∧ lcGo f ds = .ok r ∧ l = (match o with | some x => x :: r | none => r) := by
  unfold lcGo at h
  cases e : f d with
  | ok o =>
    rw [e] at h
    dsimp only at h
    cases e2 : lcGo f ds with
    | ok r => rw [e2] at h; cases h; exact ⟨o, r, rfl, rfl, rfl⟩
    | _ => rw [e2] at h; cases h
  | _ => rw [e] at h; cases h
/-- what is walked, the target, the test, the element: a comprehension -/
theorem lc_read {own : List Nat} {tg : Tg} {wi : List Sl → R (List D)} {rt : List Sl → R Bool} {re : List Sl → R D} {tt : TT} {σ : L2.St} {H : Hp} {Q : VK} (hown : ∀ i ∈ (match tg with | .one i => [i] | .many l => l), i ∈ own)
    (ht : ∀ (σ : L2.St) (H : Hp) (G : Hp) (env : List Sl) (b : Bool) (N : Bool → Hp → Prop), Same G H → EnvR K G σ env → rt env = .ok b → (∀ H' G', Ext H G H' G' → N b H') → tt σ H N)
    (h : rdL K ca W (fun env => (wi env).bind fun ds => (lcGo (fun d => (setT (wipeE env own) tg d).bind fun e2 => (rt e2).bind fun b => if b = true then (re e2).bind fun x => .ok (some x) else .ok none) ds).bind fun l => .ok (.list l)) σ H Q) :
    tLc (rdI K ca W wi) (gT K tg) tt (rdE K ca (fun _ _ _ _ => False) re) own σ H Q := by
  obtain ⟨env, G, hg, he, hm⟩ := h
  refine ⟨env, G, hg, he, ?_⟩
  dsimp only at hm
  cases ew : wi env with
  | exc c => rw [ew] at hm; exact hm
  | bad => rw [ew] at hm; exact hm
  | ok ds =>
    rw [ew] at hm
    intro J H1 G1 x1 wk Dd hD
    change RsL K (BX ca W σ) H G Q ((lcGo (fun d => (setT (wipeE env own) tg d).bind fun e2 => (rt e2).bind fun b => if b = true then (re e2).bind fun x => .ok (some x) else .ok none) ds).bind fun l => .ok (.list l)) at hm
    generalize hf : (fun d => (setT (wipeE env own) tg d).bind fun e2 => (rt e2).bind fun b => if b = true then (re e2).bind fun x => .ok (some x) else .ok none) = f at hm
    cases el : lcGo f ds with
    | exc c =>
      exfalso
      clear hm
      have nx : ∀ (l : List D), lcGo f l ≠ .exc c := by
        intro l
        cases l with
        | nil => intro z; cases z
        | cons d l =>
          intro z
          unfold lcGo at z
          split at z
          · split at z <;> cases z
          · cases z
      exact nx ds el
    | bad => rw [el] at hm; exact hm.elim
    | ok l =>
      rw [el] at hm
      have hH0 : H Dd = none := by
        cases z : H Dd with
        | none => rfl
        | some o => rw [x1.a _ o z] at hD; cases hD
      refine ⟨fun i m H' => m = ds.length - i ∧ i ≤ ds.length ∧ ∃ G' acc outs rest, Same H1 H' ∧ Same G1 G' ∧ Same G' H' ∧ G' Dd = none ∧ (∀ p o, H1 p = some o → G1 p = none → G' p = none) ∧ H' Dd = some (.lst acc) ∧ DpAll K G' acc outs ∧ outs.length ≤ i ∧ lcGo f (ds.drop i) = .ok rest ∧ outs ++ rest = l,
        ⟨ds.length, by simp, Nat.zero_le _, G1, [], [], l, Same.upd hD, Same.refl _, x1.c.trans (Same.upd hD), x1.c.free hD, fun _ _ _ z => z, upd_same, .nil, Nat.le_refl _, by simpa using el, rfl⟩, ?_⟩
      rintro i m H' ⟨rfl, hi, G', acc, outs, rest, a1, a2, a3, a4, a5, a6, a7, a8, a9, a10⟩
      by_cases hlt : i < ds.length
      · refine .inr ⟨wk.goes i H' hlt (Same.d (a2.trans a3)), fun H'' => i + 1 ≤ ds.length ∧ ∃ G' acc outs rest, Same H1 H'' ∧ Same G1 G' ∧ Same G' H'' ∧ G' Dd = none ∧ (∀ p o, H1 p = some o → G1 p = none → G' p = none) ∧ H'' Dd = some (.lst acc) ∧ DpAll K G' acc outs ∧ outs.length ≤ i + 1 ∧ lcGo f (ds.drop (i + 1)) = .ok rest ∧ outs ++ rest = l,
          fun H'' z => ⟨ds.length - (i + 1), by omega, rfl, z.1, z.2⟩, fun x H2 y => ?_⟩
        obtain ⟨d, G2, hd, x2, dp⟩ := wk.yields i H' x H2 G' hlt (Same.d a2) a3 y
        have ed : ds.drop i = d :: ds.drop (i + 1) := by
          have q := List.drop_eq_getElem_cons hlt
          rw [q]
          have q2 : ds[i] = d := by
            have q3 := List.getElem?_eq_getElem hlt
            rw [hd] at q3
            exact (Option.some.inj q3).symm
          rw [q2]
        rw [ed] at a9
        obtain ⟨o, r0, f1, f2, f3⟩ := lcGo_cons a9
        rw [← hf] at f1
        dsimp only at f1
        cases es : setT (wipeE env own) tg d with
        | exc c => rw [es] at f1; cases f1
        | bad => rw [es] at f1; cases f1
        | ok e2 =>
          rw [es] at f1
          dsimp only [R.bind] at f1
          have heW : EnvR K G2 (L2.wipe σ own) (wipeE env own) := (he.mono (x1.b.trans (a2.trans x2.b))).wipe own
          refine gT_ok x2.c heW dp es fun σ2 he2 hw => ⟨?_, ?_⟩
          · rw [hw own hown]
            have ww : ∀ (l : List Nat) (τ : L2.St), (∀ i ∈ l, i ∈ own) → L2.wipe (L2.wipe τ l) own = L2.wipe τ own := by
              intro l
              induction l with
              | nil => intro τ _; rfl
              | cons v vs ih =>
                intro τ hh
                show L2.wipe ((L2.wipe τ vs).set v none) own = L2.wipe τ own
                rw [many_ok.wipe_set own (hh v List.mem_cons_self), ih τ fun j hj => hh j (List.mem_cons_of_mem _ hj)]
            exact ww own σ fun _ z => z
          · cases eb : rt e2 with
            | exc c => rw [eb] at f1; cases f1
            | bad => rw [eb] at f1; cases f1
            | ok b =>
              rw [eb] at f1
              dsimp only at f1
              have y6 : H2 Dd = some (.lst acc) := x2.a _ _ a6
              have y4 : G2 Dd = none := x2.d _ _ a6 a4
              refine ht σ2 H2 G2 e2 b _ x2.c he2 eb fun H3 G3 x3 => ?_
              have z6 : H3 Dd = some (.lst acc) := x3.a _ _ y6
              have z4 : G3 Dd = none := x3.d _ _ y6 y4
              have b1 : Same H1 H3 := a1.trans (x2.a.trans x3.a)
              have b2 : Same G1 G3 := a2.trans (x2.b.trans x3.b)
              have b5 : ∀ p o, H1 p = some o → G1 p = none → G3 p = none := fun p o h1 h2 => x3.d p o (x2.a p o (a1 p o h1)) (x2.d p o (a1 p o h1) (a5 p o h1 h2))
              cases b with
              | false =>
                rw [if_neg Bool.false_ne_true] at f1 ⊢
                cases f1
                exact ⟨hlt, G3, acc, outs, rest, b1, b2, x3.c, z4, b5, z6, dpAll_mono (x2.b.trans x3.b) a7, by omega, by rw [f2]; exact congrArg R.ok f3.symm, a10⟩
              | true =>
                rw [if_pos rfl] at f1 ⊢
                cases er : re e2 with
                | exc c => rw [er] at f1; cases f1
                | bad => rw [er] at f1; cases f1
                | ok xx =>
                  rw [er] at f1
                  cases f1
                  refine ⟨e2, G3, x3.c, he2.mono x3.b, ?_⟩
                  rw [er]
                  intro v H4 G4 x4 p4
                  have w6 : H4 Dd = some (.lst acc) := x4.a _ _ z6
                  have w4 : G4 Dd = none := x4.d _ _ z6 z4
                  have hup : Same G4 (upd H4 Dd (.lst (acc ++ [v]))) := fun b o q => by
                    by_cases z : b = Dd
                    · rw [z, w4] at q; cases q
                    · rw [upd_ne z]; exact x4.c b o q
                  refine ⟨acc, w6, ?_, hlt, G4, acc ++ [v], outs ++ [xx], r0, fun b o q => ?_, b2.trans x4.b, hup, w4, fun p o h1 h2 => x4.d p o (b1 p o h1) (b5 p o h1 h2), upd_same, dpAll_app (dpAll_mono (x2.b.trans (x3.b.trans x4.b)) a7) (.cons p4 .nil), by rw [List.length_append]; simpa using a8, f2, ?_⟩
                  · have := wk.le
                    rw [dpAll_len a7]
                    omega
                  · rw [upd_ne (ne_of_none q hD)]; exact x4.a b o (b1 b o q)
                  · rw [← a10, f3, List.append_assoc]; rfl
      · have e : i = ds.length := by omega
        subst e
        rw [List.drop_length] at a9
        cases a9
        rw [List.append_nil] at a10
        subst a10
        exact .inl ⟨wk.stops H' (Same.d (a2.trans a3)), hm Dd acc H' G' ⟨x1.a.trans a1, x1.b.trans a2, a3, fun p o h1 h2 => a5 p o (x1.a p o h1) (x1.d p o h1 h2)⟩ hH0 a4 a6 a7⟩
/-- a comprehension whose element may raise -/
theorem lcx_read {own : List Nat} {tg : Tg} {wi : List Sl → R (List D)} {re : List Sl → R D} {σ : L2.St} {H : Hp} {Q : VK} (hown : ∀ i ∈ (match tg with | .one i => [i] | .many l => l), i ∈ own)
    (h : rdL K ca W (fun env => (wi env).bind fun ds => (lcGoX (fun d => (setT (wipeE env own) tg d).bind fun e2 => re e2) ds).bind fun l => .ok (.list l)) σ H Q) :
    tLcX (rdI K ca W wi) (gT K tg) tYes (fun V => rdE K ca V re) own W σ H Q := by
  obtain ⟨env, G, hg, he, hm⟩ := h
  refine ⟨env, G, hg, he, ?_⟩
  dsimp only at hm
  cases ew : wi env with
  | exc c => rw [ew] at hm; exact hm
  | bad => rw [ew] at hm; exact hm
  | ok ds =>
    rw [ew] at hm
    intro J H1 G1 x1 wk Dd hD
    change RsL K (BX ca W σ) H G Q ((lcGoX (fun d => (setT (wipeE env own) tg d).bind fun e2 => re e2) ds).bind fun l => .ok (.list l)) at hm
    generalize hf : (fun d => (setT (wipeE env own) tg d).bind fun e2 => re e2) = f at hm
    have hH0 : H Dd = none := by
      cases z : H Dd with
      | none => rfl
      | some o => rw [x1.a _ o z] at hD; cases hD
    refine ⟨fun i m H' => m = ds.length - i ∧ i ≤ ds.length ∧ ∃ G' acc outs, Same H1 H' ∧ Same G1 G' ∧ Same G' H' ∧ G' Dd = none ∧ (∀ p o, H1 p = some o → G1 p = none → G' p = none) ∧ H' Dd = some (.lst acc) ∧ DpAll K G' acc outs ∧ outs.length = i ∧ RsL K (BX ca W σ) H G Q ((lcGoX f (ds.drop i)).bind fun r => .ok (.list (outs ++ r))),
      ⟨ds.length, by simp, Nat.zero_le _, G1, [], [], Same.upd hD, Same.refl _, x1.c.trans (Same.upd hD), x1.c.free hD, fun _ _ _ z => z, upd_same, .nil, rfl, hm⟩, ?_⟩
    rintro i m H' ⟨rfl, hi, G', acc, outs, a1, a2, a3, a4, a5, a6, a7, a8, a9⟩
    by_cases hlt : i < ds.length
    · refine .inr ⟨wk.goes i H' hlt (Same.d (a2.trans a3)), fun H'' => i + 1 ≤ ds.length ∧ ∃ G' acc outs, Same H1 H'' ∧ Same G1 G' ∧ Same G' H'' ∧ G' Dd = none ∧ (∀ p o, H1 p = some o → G1 p = none → G' p = none) ∧ H'' Dd = some (.lst acc) ∧ DpAll K G' acc outs ∧ outs.length = i + 1 ∧ RsL K (BX ca W σ) H G Q ((lcGoX f (ds.drop (i + 1))).bind fun r => .ok (.list (outs ++ r))),
        fun H'' z => ⟨ds.length - (i + 1), by omega, rfl, z.1, z.2⟩, fun x H2 y => ?_⟩
      obtain ⟨d, G2, hd, x2, dp⟩ := wk.yields i H' x H2 G' hlt (Same.d a2) a3 y
      have ed : ds.drop i = d :: ds.drop (i + 1) := by
        have q := List.drop_eq_getElem_cons hlt
        rw [q]
        have q2 : ds[i] = d := by
          have q3 := List.getElem?_eq_getElem hlt
          rw [hd] at q3
          exact (Option.some.inj q3).symm
        rw [q2]
      rw [ed] at a9
      have a9 : RsL K (BX ca W σ) H G Q (((f d).bind fun x => (lcGoX f (ds.drop (i + 1))).bind fun r => .ok (x :: r)).bind fun r => .ok (.list (outs ++ r))) := a9
      have fd : f d = (setT (wipeE env own) tg d).bind fun e2 => re e2 := by rw [← hf]
      rw [fd] at a9
      cases es : setT (wipeE env own) tg d with
      | exc c =>
        exfalso
        cases tg with
        | one _ => cases es
        | many l =>
          cases d with
          | tuple ds2 =>
            have nx : ∀ (l : List Nat) (ds2 : List D) (e : List Sl), setMany e l ds2 ≠ .exc c := by
              intro l
              induction l with
              | nil => intro ds2 e z; cases ds2 <;> cases z
              | cons _ _ ih => intro ds2 e z; cases ds2 with
                | nil => cases z
                | cons _ _ => exact ih _ _ z
            exact nx l ds2 _ es
          | _ => cases es
      | bad => rw [es] at a9; exact a9.elim
      | ok e2 =>
        rw [es] at a9
        have a9 : RsL K (BX ca W σ) H G Q (((re e2).bind fun x => (lcGoX f (ds.drop (i + 1))).bind fun r => .ok (x :: r)).bind fun r => .ok (.list (outs ++ r))) := a9
        have heW : EnvR K G2 (L2.wipe σ own) (wipeE env own) := (he.mono (x1.b.trans (a2.trans x2.b))).wipe own
        refine gT_ok x2.c heW dp es fun σ2 he2 hw => ⟨?_, ?_⟩
        · rw [hw own hown]
          have ww : ∀ (l : List Nat) (τ : L2.St), (∀ i ∈ l, i ∈ own) → L2.wipe (L2.wipe τ l) own = L2.wipe τ own := by
            intro l
            induction l with
            | nil => intro τ _; rfl
            | cons v vs ih =>
              intro τ hh
              show L2.wipe ((L2.wipe τ vs).set v none) own = L2.wipe τ own
              rw [many_ok.wipe_set own (hh v List.mem_cons_self), ih τ fun j hj => hh j (List.mem_cons_of_mem _ hj)]
          exact ww own σ fun _ z => z
        · unfold tYes
          refine cast (if_pos rfl).symm ?_
          have y6 : H2 Dd = some (.lst acc) := x2.a _ _ a6
          have y4 : G2 Dd = none := x2.d _ _ a6 a4
          have b1 : Same H1 H2 := a1.trans x2.a
          have b2 : Same G1 G2 := a2.trans x2.b
          have b5 : ∀ p o, H1 p = some o → G1 p = none → G2 p = none := fun p o h1 h2 => x2.d p o (a1 p o h1) (a5 p o h1 h2)
          refine ⟨e2, G2, x2.c, he2, ?_⟩
          cases er : re e2 with
          | bad => rw [er] at a9; exact a9.elim
          | exc c =>
            rw [er] at a9
            intro H4 G4 x4
            exact a9 H4 G4 ⟨x1.a.trans (b1.trans x4.a), x1.b.trans (b2.trans x4.b), x4.c, fun p o h1 h2 => x4.d p o (b1 p o (x1.a p o h1)) (b5 p o (x1.a p o h1) (x1.d p o h1 h2))⟩
          | ok xx =>
            rw [er] at a9
            have a9 : RsL K (BX ca W σ) H G Q (((lcGoX f (ds.drop (i + 1))).bind fun r => .ok (xx :: r)).bind fun r => .ok (.list (outs ++ r))) := a9
            intro v H4 G4 x4 p4
            have w6 : H4 Dd = some (.lst acc) := x4.a _ _ y6
            have w4 : G4 Dd = none := x4.d _ _ y6 y4
            have hup : Same G4 (upd H4 Dd (.lst (acc ++ [v]))) := fun b o q => by
              by_cases z : b = Dd
              · rw [z, w4] at q; cases q
              · rw [upd_ne z]; exact x4.c b o q
            refine ⟨acc, w6, ?_, hlt, G4, acc ++ [v], outs ++ [xx], fun b o q => ?_, b2.trans x4.b, hup, w4, fun p o h1 h2 => x4.d p o (b1 p o h1) (b5 p o h1 h2), upd_same, dpAll_app (dpAll_mono (x2.b.trans x4.b) a7) (.cons p4 .nil), by rw [List.length_append, a8]; rfl, ?_⟩
            · have := wk.le
              rw [dpAll_len a7]
              omega
            · rw [upd_ne (ne_of_none q hD)]; exact x4.a b o (b1 b o q)
            · cases el : lcGoX f (ds.drop (i + 1)) with
              | exc c => rw [el] at a9; exact a9
              | bad => rw [el] at a9; exact a9
              | ok r =>
                rw [el] at a9
                show RsL K (BX ca W σ) H G Q (.ok (.list ((outs ++ [xx]) ++ r)))
                rw [List.append_assoc]
                exact a9
    · have e : i = ds.length := by omega
      subst e
      rw [List.drop_length] at a9
      have a9 : RsL K (BX ca W σ) H G Q (.ok (.list (outs ++ []))) := a9
      rw [List.append_nil] at a9
      exact .inl ⟨wk.stops H' (Same.d (a2.trans a3)), a9 Dd acc H' G' ⟨x1.a.trans a1, x1.b.trans a2, a3, fun p o h1 h2 => a5 p o (x1.a p o h1) (x1.d p o h1 h2)⟩ hH0 a4 a6 a7⟩
/-! ### turned about, the greatest or nought, words of a dict -/
theorem dpAll_reverse {G : Hp} : ∀ {vs : List V} {ds : List D}, DpAll K G vs ds → DpAll K G vs.reverse ds.reverse
  | _, _, .nil => .nil
  | _, _, .cons a b => by
    rw [List.reverse_cons, List.reverse_cons]
    exact dpAll_app (dpAll_reverse b) (.cons a .nil)
theorem e_rev {a : Expr} {k : Nat} {p1 p2 p3 pos : Pos} {ra : List Sl → R D} (ha : PE X a (rdE X.K ca W ra)) :
    PE X (.Subscript a (.Slice none none (some (.UnaryOp .USub (.Constant (.int 1) k p1) p2)) p3) pos) (rdE X.K ca W fun env => (ra env).bind revR) :=
  PE.imp (pe_revL ha) fun σ H Q ⟨env, G, hg, he, hm⟩ => ⟨env, G, hg, he, Rs.bind hm fun x v H1 G1 _ e1 hx hm1 => by
    have s := e1.c
    cases hx with
    | lst q r => exact ⟨_, _, rfl, s.seq q, fun p hp => Rs.new hm1 s hp (.lst (SqL.of upd_same) (dpAll_mono (Same.upd (s.free hp)) (dpAll_reverse r)))⟩
    | _ => exact hm1.elim⟩
def rMx0 (K : PySem.W.Frag) : List V → List V → Hp → VK → Prop := fun vs zs H Q => ∃ (a : Addr) (ns : List Int), vs = [V.ref a] ∧ zs = [.int 0] ∧ SqL K H a (ns.map V.int) ∧ Q (.int (mxL ns)) H
theorem cr_mx0 (hc : X.calm = true) (hu : X.A.units + 1 < cLine) : CallRK X (.builtin "max") ["default"] (rMx0 X.K) := by
  intro pins s σ H vs zs us ws Q I r rz h
  obtain ⟨a, ns, rfl, rfl, hs, q⟩ := h
  obtain ⟨its, rv, hl, _⟩ := I.list hs
  rw [Vals.ref1 r]
  have hold : ∀ {ms : List Int} {us : List Value}, Vals (ms.map V.int) us → PySem.W.HoldAll s.heap us ms := by
    intro ms
    induction ms with
    | nil => intro us hv; rw [List.map_nil] at hv; cases hv; exact PySem.W.HoldAll.nil
    | cons m ms ih =>
      intro us hv
      rw [List.map_cons] at hv
      cases hv with
      | cons h1 h2 =>
        obtain ⟨t, rfl⟩ := h1
        exact PySem.W.HoldAll.cons ⟨_, .int _ _⟩ (ih h2)
  obtain ⟨t0, rfl⟩ : ∃ t0, ws = [Value.int 0 t0] := by
    cases rz with
    | cons h1 h2 =>
      obtain ⟨t, rfl⟩ := h1
      cases h2
      exact ⟨t, rfl⟩
  refine PySem.W.max_list_datum_default (α := Int) (I.ok.hd hc) hl.isList (by rw [List.toList_toArray]; exact hold rv) hu (fun e h' tk hk => ?_) (fun y ys i v h' tk e hi hh hk => ?_)
  · subst e
    exact ⟨.int 0, H, I.kept hk, ⟨_, rfl⟩, q⟩
  · subst e
    obtain ⟨as, rd⟩ := hh
    have em : PySem.W.maxOf y ys = mxL (y :: ys) := by
      show ys.foldl _ y = ys.foldl _ y
      congr 1
      funext a b
      show (if decide (a < b) = true then b else a) = _
      simp only [decide_eq_true_eq]
    rw [em] at rd
    cases rd with
    | int _ t => exact ⟨.int _, H, I.kept hk, ⟨_, rfl⟩, q⟩
theorem e_mx0 {a : Expr} {p p1 pos kp : Pos} {k1 : Nat} {ra : List Sl → R D} (hc : X.calm = true) (hu : X.A.units + 1 < cLine) (hg : Gl X "max") (hm : X.mg "max" = none) (n : notStar a = true) (ha : PE X a (rdE X.K ca W ra)) :
    PE X (.Call (.Name "max" p) [a] [⟨some "default", .Constant (.int 0) k1 p1, kp⟩] pos) (rdE X.K ca W fun env => (ra env).bind mx0R) := by
  have s1 := star_cons (env := X.env) (es := []) n
  refine PE.imp (pe_callBK (cr_mx0 hc hu) hg hm (by decide +kernel) (pa_cons ha pa_nil s1) (pk_cons pe_int pk_nil) (by decide +kernel) (by decide +kernel) (by rw [s1]; rfl) (by rw [s1]; rfl) rfl rfl rfl) fun σ H Q ⟨env, G, hg, he, hm⟩ => ⟨env, G, hg, he, Rs.bind hm fun x v H1 G1 _ e1 hx hm1 => ?_⟩
  have s := e1.c
  cases hx with
  | lst q r =>
    rename_i ds hra
    dsimp only [mx0R] at hm1
    cases e : intsOf ds with
    | none => rw [e] at hm1; exact hm1.elim
    | some ns =>
      rw [e] at hm1
      have z := dpAll_ints r e
      subst z
      exact ⟨_, ns, rfl, rfl, s.seq q, Rs.now hm1 s (.int _)⟩
  | _ => exact hm1.elim
/-! ### one or the other by truth; how often -/
theorem tru_of {H G : Hp} {x : V} {d : D} {k : Bool} (s : Same G H) (h : Dp K G x d) (e : truD d = some k) : TruV K x H k := by
  cases h with
  | non => cases e; rfl
  | lst q r =>
    cases e
    refine .inl ⟨_, s.seq q, ?_⟩
    cases r <;> rfl
  | tup q r =>
    cases e
    refine .inr (.inl ⟨_, Same.seqT s q, ?_⟩)
    cases r <;> rfl
  | _ => cases e
theorem e_orv {a b : Expr} {pos : Pos} {ra rb : List Sl → R D} (ha : PE X a (rdE X.K ca W ra)) (hb : PE X b (rdE X.K ca W rb)) :
    PE X (.BoolOp .Or [a, b] pos) (rdE X.K ca W fun env => (ra env).bind fun x => match truD x with | some true => .ok x | some false => rb env | none => .bad) :=
  PE.imp (pe_orT ha (pe_one hb)) fun σ H Q ⟨env, G, hg, he, hm⟩ => ⟨env, G, hg, he, Rs.bind hm fun x v H1 G1 _ e1 hx hm1 => by
    cases ht : truD x with
    | none => rw [ht] at hm1; exact hm1.elim
    | some k =>
      rw [ht] at hm1
      refine ⟨k, tru_of e1.c hx ht, ?_⟩
      cases k with
      | true => rw [if_pos rfl]; exact hm1.now e1.c hx
      | false => rw [if_neg Bool.false_ne_true]; exact ⟨env, G1, e1.c, he.mono e1.b, hm1⟩⟩
def plainT : Expr → Bool
  | .Subscript _ _ _ => true
  | .Call _ _ _ _ => true
  | .Name _ _ => true
  | _ => false
theorem t_orv {a b : Expr} {pos : Pos} {ra rb : List Sl → R D} (hp : plainT a = true) (ha : PE X a (rdE X.K ca W ra)) (hb : Both X ca W b rb) :
    PT X (.BoolOp .Or [a, b] pos) (rdT X.K ca W fun env => (ra env).bind fun x => match truD x with | some true => .ok x | some false => rb env | none => .bad) :=
  PT.imp (pw_or (pt_truth ha (fun _ => by cases a <;> first | rfl | cases hp)) (pw_or1 hb.pt)).pt fun σ H Q ⟨env, G, hg, he, hm⟩ => ⟨env, G, hg, he, RsT.bind hm fun x v H1 G1 _ e1 hx hm1 => by
    cases ht : truD x with
    | none => rw [ht] at hm1; exact hm1.elim
    | some k =>
      rw [ht] at hm1
      refine ⟨k, tru_of e1.c hx ht, ?_⟩
      cases k with
      | true =>
        exfalso
        cases x <;> first | exact hm1 | cases ht
      | false => rw [if_neg Bool.false_ne_true]; exact ⟨env, G1, e1.c, he.mono e1.b, hm1⟩⟩
def rCntD (K : PySem.W.Frag) : V → List V → Hp → VK → Prop := fun x xs H Q => ∃ (a : Addr) (y : V) (d : PyData) (ds : List PyData), x = V.ref a ∧ xs = [y] ∧ Dp K H (V.ref a) (.list ds) ∧ Dp K H y d ∧ SeqAt.shaped (.list ds) = true ∧ SeqAt.shaped d = true ∧ Q (.int (ds.countP fun z => PyData.eqv z d : Nat)) H
theorem mt_cntD (hu : X.A.units + 65 < cLine) : MtR X "list.count" (rCntD X.K) := by
  intro pins s σ H x xs v us Q I rx rxs h
  obtain ⟨a, y, d, ds, rfl, rfl, hl, hy, sl, sd, q⟩ := h
  cases rx
  cases rxs with
  | cons ry rt =>
    rename_i uy ut
    cases rt
    obtain ⟨bs, r1⟩ := Dp.reads I d y uy hy ry
    have c1 : PyData.canLayAll0 ds = true := SeqAt.canLay_of_shaped sl
    have rm : X.A.units + 1 + min (PyData.depthAll ds) d.depth < cLine := room_in_shaped sd hu
    cases hl with
    | lst hs ha =>
      obtain ⟨its, rv, ⟨⟨cls, dd, data, sls⟩, n, ho, hc, hdn, hdt⟩, hlen⟩ := I.list hs
      simp only at hc hdt
      subst hc hdt
      obtain ⟨as, h4⟩ := Dp.readsAll I ds _ its ha rv
      have mp : its.map (SeqAt.readOf s.heap) = ds := SeqAt.readsAll_map ds its as c1 h4
      refine call_meets PySem.F.slot_list_count ⟨_, ho, rfl⟩ PySem.F.entry_list_count (PySem.F.args_list_count_2 _ _)
        (SeqAt.list_countAt a its.toArray n dd sls uy (fun u => PyData.eqv (SeqAt.readOf s.heap u) d)) ⟨ho, SeqAt.items_eqAt (vs := its.toArray) (show ReadsAll s.heap its.toArray.toList ds as from h4) r1 c1 (SeqAt.canLay_of_shaped sd) rm, ?_⟩
      have ec : its.toArray.toList.countP (fun u => PyData.eqv (SeqAt.readOf s.heap u) d) = ds.countP fun z => PyData.eqv z d := by
        rw [← mp, List.countP_map]
        rfl
      rw [ec]
      exact ⟨.int _, H, I.tok _, ⟨_, rfl⟩, q⟩
theorem e_cnt {i : Nat} {y : Str} {b : Expr} {py ap cp : Pos} {rb : List Sl → R D} (hu : X.A.units + 65 < cLine) (hv : PE X (.Name y py) (tVar i)) (hl : (ap.endLine == cp.line) = true) (ns : notStar b = true) (hb : PE X b (rdE X.K ca W rb))
    (few : ((backTo cp (starEach [b] X.env)).all (fun x => !x.1) && (backToKw cp (keywordEach [] X.env)).all (fun x => x.1.isSome) && decide (([b] : List Expr).length + ([] : List Keyword).length + (if ([] : List Keyword).isEmpty then 0 else 1) < 30)) = true) :
    PE X (.Call (.Attribute (.Name y py) "count" ap) [b] [] cp) (rdE X.K ca W fun env => (getV env i).bind fun x => (lstR x).bind fun l => (rb env).bind fun z => cntR l z) :=
  PE.imp (pe_bm PySem.F.plainAttrs_list PySem.F.slot_list_count PySem.F.type_list_count (mt_cntD hu) hv (pa_cons hb pa_nil (star_cons ns)) rfl few hl (star_cons ns) rfl) fun σ H Q ⟨env, G, hg, he, hm⟩ => by
    dsimp only at hm
    cases q : env[i]? with
    | none => rw [show getV env i = .bad from by unfold getV; rw [q]] at hm; exact hm.elim
    | some z =>
      cases z with
      | fr d =>
        rw [show getV env i = .ok d from by unfold getV; rw [q]] at hm
        obtain ⟨v, h1, h2⟩ := he.get i d q
        cases d with
        | list ds =>
          cases h2 with
          | lst q1 r1 =>
            have hm : Rs X.K (BX ca W σ) H G Q ((rb env).bind fun z => cntR ds z) := hm
            refine ⟨_, h1, .inl ⟨rfl, _, hg.seq q1⟩, env, G, hg, he, Rs.bind hm fun x v H1 G1 _ e1 hx hm1 => ?_⟩
            dsimp only [cntR] at hm1
            split at hm1
            · rename_i hs
              exact ⟨_, v, x, ds, rfl, rfl, .lst (e1.c.seq (e1.b.seq q1)) (dpAll_mono (e1.b.trans e1.c) r1), dp_mono e1.c hx, hs.2, hs.1, Rs.now hm1 e1.c (.int _)⟩
            · exact hm1.elim
        | _ => exact hm.elim
      | _ => rw [show getV env i = .bad from by unfold getV; rw [q]] at hm; exact hm.elim
/-! ### how many unlike ones -/
theorem nd_sub_len {α : Type} [DecidableEq α] : ∀ (l D : List α), l.Nodup → (∀ x ∈ l, x ∈ D) → l.length ≤ D.length
  | [], _, _, _ => Nat.zero_le _
  | a :: l, D, nd, h => by
    rw [List.nodup_cons] at nd
    have hm : a ∈ D := h a List.mem_cons_self
    have e := List.length_erase_of_mem hm
    have p : 0 < D.length := List.length_pos_of_mem hm
    have ih := nd_sub_len l (D.erase a) nd.2 fun x hx => (List.mem_erase_of_ne (fun z => nd.1 (by rw [← z]; exact hx))).mpr (h x (List.mem_cons_of_mem _ hx))
    rw [List.length_cons]
    omega
def ded : List (List Int) → List (List Int)
  | [] => []
  | x :: xs => if x ∈ xs then ded xs else x :: ded xs
theorem ded_mem : ∀ {l : List (List Int)} {x : List Int}, x ∈ ded l ↔ x ∈ l
  | [], x => Iff.rfl
  | y :: l, x => by
    unfold ded
    by_cases h : y ∈ l
    · rw [if_pos h, ded_mem, List.mem_cons]
      refine ⟨.inr, fun z => ?_⟩
      rcases z with rfl | z
      · exact h
      · exact z
    · rw [if_neg h, List.mem_cons, List.mem_cons, ded_mem]
theorem ded_nd : ∀ (l : List (List Int)), (ded l).Nodup
  | [] => List.nodup_nil
  | y :: l => by
    unfold ded
    by_cases h : y ∈ l
    · rw [if_pos h]; exact ded_nd l
    · rw [if_neg h, List.nodup_cons]; exact ⟨fun z => h (ded_mem.mp z), ded_nd l⟩
theorem ded_len : ∀ (l : List (List Int)), (ded l).length = dedN l
  | [] => rfl
  | y :: l => by
    unfold ded dedN
    by_cases h : y ∈ l
    · rw [if_pos h, if_pos h]; exact ded_len l
    · rw [if_neg h, if_neg h, List.length_cons, ded_len l]
theorem dedN_of {l ks : List (List Int)} (nd : l.Nodup) (h1 : ∀ x ∈ l, x ∈ ks) (h2 : ∀ x ∈ ks, x ∈ l) : l.length = dedN ks := by
  rw [← ded_len]
  exact Nat.le_antisymm (nd_sub_len _ _ nd fun x hx => ded_mem.mpr (h1 x hx)) (nd_sub_len _ _ (ded_nd ks) fun x hx => h2 x (ded_mem.mp hx))
theorem tups_of {G : Hp} : ∀ {vs : List V} {ds : List D} {kss : List (List Int)}, DpAll K G vs ds → tupsOf ds = some kss → ∃ ks : List (Addr × List Int), vs = ks.map (fun p => V.ref p.1) ∧ kss = ks.map (·.2) ∧ ∀ p ∈ ks, SqT K G p.1 (p.2.map V.int)
  | _, _, _, .nil, e => by cases e; exact ⟨[], rfl, rfl, fun p h => by cases h⟩
  | _, _, kss, .cons (ds := ds) a b, e => by
    cases a with
    | tup q r =>
      unfold tupsOf at e
      obtain ⟨k, k1, e⟩ := Option.bind_eq_some_iff.mp e
      obtain ⟨l, l1, l2⟩ := Option.map_eq_some_iff.mp e
      obtain ⟨ks, e1, e2, e3⟩ := tups_of b l1
      have z := dpAll_ints r k1
      rw [z] at q
      refine ⟨(_, k) :: ks, by rw [e1]; rfl, by rw [← l2, e2]; rfl, fun p hp => ?_⟩
      rcases List.mem_cons.mp hp with rfl | hp
      · exact q
      · exact e3 p hp
    | _ => cases e
def tLensT (K : PySem.W.Frag) (ta : TE) : TE := fun σ H Q => ta σ H fun x H1 => ∃ (l : Addr), x = V.ref l ∧
  ((∃ ks : List (Addr × List Int), SqL K H1 l (ks.map fun p => V.ref p.1) ∧ (∀ p ∈ ks, SqT K H1 p.1 (p.2.map V.int)) ∧ ks.length < 64 ∧ Q (.int (dedN (ks.map (·.2)))) H1) ∨
   (∃ (b : Addr) (vs : List V), SqL K H1 l [V.ref b] ∧ SqT K H1 b vs ∧ (∀ v ∈ vs, ∃ (c : Addr) (k : List Int), v = V.ref c ∧ SqT K H1 c (k.map V.int)) ∧ Q (.int 1) H1))
theorem vals_ref_mem : ∀ {vs : List V} {us : List Value}, Vals vs us → ∀ u ∈ us, ∃ v ∈ vs, ∀ c : Addr, v = V.ref c → u = Value.ref c
  | _, _, .nil, u, h => by cases h
  | _, _, .cons (a := x) r t, u, h => by
    rcases List.mem_cons.mp h with e | h
    · refine ⟨x, List.mem_cons_self, fun c ec => ?_⟩
      subst ec
      rw [e]
      cases r <;> rfl
    · obtain ⟨v, h1, h2⟩ := vals_ref_mem t u h
      exact ⟨v, List.mem_cons_of_mem _ h1, h2⟩
theorem inv_isP {pins : List (Addr × Obj)} {σ : L2.St} {H : Hp} {s : Shared} {b : Addr} {vs : List V} (I : Inv X pins σ H s) (h : SqT X.K H b vs) (hv : ∀ v ∈ vs, ∃ (c : Addr) (k : List Int), v = V.ref c ∧ SqT X.K H c (k.map V.int)) : IsP X.prog X.w s.heap b := by
  obtain ⟨its, r, ⟨o, ho, hc, n, hd⟩, _⟩ := I.tuple h
  refine ⟨o, its.toArray, n, ho, hc, hd, fun u hu => ?_⟩
  obtain ⟨v, h1, h2⟩ := vals_ref_mem r u (by simpa using hu)
  obtain ⟨c, k, e, ht⟩ := hv v h1
  exact ⟨c, k, h2 c e, I.isT ht⟩
theorem pe_lensT {a : Expr} {ta : TE} {p p2 q pos : Pos} (hc : X.calm = true) (hu : X.A.units + 65 < cLine) (hg : Gl X "len") (hm : X.mg "len" = none) (hg2 : Gl X "set") (hm2 : X.mg "set" = none) (na : notStar a = true) (ha : PE X a ta) :
    PE X (.Call (.Name "len" p) [.Call (.Name "set" p2) [a] [] q] [] pos) (tLensT X.K ta) := by
  have n1 := star_cons (env := X.env) (es := []) na
  refine ⟨fun pins s σ H Q I h => ?_⟩
  refine Call_ (ld_blt I hg hm PySem.boot_len ?_)
  refine PyProof.Rows.callWith_builtin1 (PyProof.Rows.args_cons (Call_ (ld_blt I hg2 hm2 PyProof.Rows.boot_set ?_)) rfl) rfl rfl
  refine PyProof.Rows.callWith_type1 (PyProof.Rows.args_cons (thn (ha.run pins s σ H _ I h) fun v s1 ⟨x, H1, I1, r1, q1⟩ => PyProof.Rows.args_nil ?_) n1) n1 rfl
  obtain ⟨l, rfl, ⟨ks, hl, hk, hf, q1⟩ | ⟨b, vs, hl, hb, hvs, q1⟩⟩ := q1
  rotate_left
  · cases r1
    obtain ⟨its, rv, pl, hz⟩ := I1.list hl
    have e1 : its = [Value.ref b] := by
      cases rv with
      | cons r t =>
        cases t
        cases r
        rfl
    refine call_set_one (P := X.prog) (w := X.w) (x := b) (I1.ok.hd hc) pl.isList (by simpa using e1) (inv_isP I1 hb hvs) (by omega) fun h' tk o1 k => ?_
    refine PyProof.Rows.args_nil ?_
    have I2 : Inv X pins σ H1 { s1 with heap := h', toks := tk } := I1.kept fun b o e => k b o e
    obtain ⟨o, es, ep, t, o1, o2, o3, sz, fit⟩ := o1
    refine call_len_set (s := { s1 with heap := h', toks := tk }) o1 o2 o3 fit (by rw [sz]; decide) ⟨.int _, H1, I2.tok _, ⟨_, rfl⟩, ?_⟩
    rw [sz]
    exact q1
  cases r1
  obtain ⟨its, rv, pl, hz⟩ := I1.list hl
  refine call_set_tups (P := X.prog) (w := X.w) ks (I1.ok.hd hc) pl.isList (by simpa using refs_of_vals rv) (fun p hp => I1.isT (hk p hp)) hf (by omega) fun h' tk L es ep t R g k => ?_
  refine PyProof.Rows.args_nil ?_
  have I2 : Inv X pins σ H1 { s1 with heap := h', toks := tk } := I1.kept fun b o e => k b o e
  obtain ⟨o, o1, o2, o3⟩ := R.ob
  have sz : es.size = L.length := SetTR.size (s := { s1 with heap := h', toks := tk }) R
  have le := R.few
  have en : L.length = dedN (ks.map (·.2)) := by
    have z := dedN_of (l := L.map (·.2)) (ks := ks.map (·.2)) R.nd (fun x hx => by
      obtain ⟨p, p1, p2⟩ := List.mem_map.mp hx
      exact List.mem_map.mpr ⟨p, List.mem_of_mem_take (g.sub p p1), p2⟩) (fun x hx => by
      obtain ⟨p, p1, p2⟩ := List.mem_map.mp hx
      rw [← p2]
      exact g.all p (by rw [List.take_length]; exact p1))
    rw [List.length_map] at z
    exact z
  refine call_len_set (s := { s1 with heap := h', toks := tk }) o1 o2 o3 (SetTR.fits (s := { s1 with heap := h', toks := tk }) R) (by rw [sz]; omega) ⟨.int _, H1, I2.tok _, ⟨_, rfl⟩, ?_⟩
  rw [sz, en]
  exact q1
theorem e_lens {a : Expr} {p p2 q pos : Pos} {ra : List Sl → R D} (hc : X.calm = true) (hu : X.A.units + 65 < cLine) (hg : Gl X "len") (hm : X.mg "len" = none) (hg2 : Gl X "set") (hm2 : X.mg "set" = none) (na : notStar a = true) (ha : PE X a (rdE X.K ca W ra)) :
    PE X (.Call (.Name "len" p) [.Call (.Name "set" p2) [a] [] q] [] pos) (rdE X.K ca W fun env => (ra env).bind lensR) :=
  PE.imp (pe_lensT hc hu hg hm hg2 hm2 na ha) fun σ H Q ⟨env, G, hg, he, hm⟩ => ⟨env, G, hg, he, Rs.bind hm fun x v H1 G1 _ e1 hx hm1 => by
    have s := e1.c
    cases hx with
    | lst q r =>
      rename_i ds hra
      dsimp only [lensR] at hm1
      cases e : tupsOf ds with
      | none =>
        rw [e] at hm1
        dsimp only at hm1
        split at hm1
        · rename_i hp
          unfold oneP at hp
          split at hp
          · rename_i es
            cases r with
            | cons a b =>
              cases b
              cases a with
              | tup q2 r2 =>
                obtain ⟨ks2, e2⟩ := Option.isSome_iff_exists.mp hp
                obtain ⟨ks, k1, k2, k3⟩ := tups_of r2 e2
                refine ⟨_, rfl, .inr ⟨_, _, s.seq q, Same.seqT s q2, fun v hv => ?_, Rs.now hm1 s (.int _)⟩⟩
                rw [k1] at hv
                obtain ⟨p, hp, rfl⟩ := List.mem_map.mp hv
                exact ⟨p.1, p.2, rfl, Same.seqT s (k3 p hp)⟩
          · cases hp
        · exact hm1.elim
      | some kss =>
        rw [e] at hm1
        obtain ⟨ks, k1, k2, k3⟩ := tups_of r e
        subst k1 k2
        dsimp only at hm1
        split at hm1
        · rename_i hl
          rw [List.length_map] at hl
          exact ⟨_, rfl, .inl ⟨ks, s.seq q, fun p hp => Same.seqT s (k3 p hp), hl, Rs.now hm1 s (.int _)⟩⟩
        · exact hm1.elim
    | _ => exact hm1.elim⟩
/-- a dict of the module that stays: words that are asked for -/
structure DctOk (X : Cx) (x : Str) (j : Nat) : Prop where
  ex : ∃ d es m, X.mg x = some (.ref d) ∧ KDict X.K X.w d es m ∧ ∀ z b, (z, b) ∈ dctT j → ∃ r, PySem.W.nsIn X.K d z = some r ∧ r.isSome = b
theorem lookup_mem' {z : Str} {b : Bool} : ∀ {l : List (Str × Bool)}, l.lookup z = some b → (z, b) ∈ l
  | [], h => by cases h
  | (y, c) :: r, h => by
    rw [List.lookup_cons] at h
    split at h
    · rename_i e
      cases h
      rw [beq_iff_eq.mp e]
      exact List.mem_cons_self
    · exact List.mem_cons_of_mem _ (lookup_mem' h)
theorem e_ins {a : Expr} {x : Str} {j : Nat} {p pos : Pos} {ra : List Sl → R D} (Dc : DctOk X x j) (hg : Gl X x) (hd : (x == ("__debug__" : Str)) = false) (ha : PE X a (rdE X.K ca W ra)) :
    Both X ca W (.Compare a [.In] [.Name x p] pos) (fun env => (ra env).bind (insR j)) := by
  obtain ⟨d, es, m, h1, h2, h3⟩ := Dc.ex
  have hb : PE X (.Name x p) (tC (.ref d)) := pe_glob hg h1 rfl hd
  have key : ∀ (B : Str → Hp → Prop) (H1 G1 : Hp) (y : D) (v : V) (Q : VK), Same G1 H1 → Dp X.K G1 v y → Rs X.K B H1 G1 Q (insR j y) → ∃ (z : Str) (r : Option Value), v = .str z ∧ (V.ref d : V) = .ref d ∧ PySem.W.nsIn X.K d z = some r ∧ Q (.bl r.isSome) H1 := by
    intro B H1 G1 y v Q s hx hm
    cases hx with
    | str z =>
      dsimp only [insR] at hm
      cases e : (dctT j).lookup z with
      | none => rw [e] at hm; exact hm.elim
      | some b =>
        rw [e] at hm
        obtain ⟨r, r1, r2⟩ := h3 z b (lookup_mem' e)
        exact ⟨z, r, rfl, rfl, r1, by rw [r2]; exact Rs.now hm s (.bl _)⟩
    | _ => exact hm.elim
  refine ⟨PE.imp (pe_cmpR (op_in_kd h2) ha hb rfl) fun σ H Q ⟨env, G, hg, he, hm⟩ => ⟨env, G, hg, he, Rs.bind hm fun y v H1 G1 _ e1 hx hm1 => key _ _ _ _ _ _ e1.c hx hm1⟩, ?_⟩
  exact PT.imp (pt_cmpR (op_in_kd h2) ha hb rfl) fun σ H Q h => by
    obtain ⟨env, G, hg, he, hm⟩ := rdT_val h
    exact ⟨env, G, hg, he, Rs.bind hm fun y v H1 G1 _ e1 hx hm1 => key _ _ _ _ _ _ e1.c hx hm1⟩
/-! ### texts -/
/-- what stands ahead of a method's name -/
def baseB : Expr → Bool
  | .Call _ _ _ _ => false
  | _ => true
theorem base_ok {o : Expr} {a : Str} {env : Env} {w : Sem Value} (h : baseB o = true) : attributeBase o a env w = w := by
  cases o <;> first | rfl | cases h
def txName : Tx → Str
  | .join => "join"
  | .split => "split"
  | .part => "partition"
  | .idx => "index"
  | _ => ""
def tx2B : Tx → Bool
  | .join => true
  | .split => true
  | .part => true
  | .idx => true
  | _ => false
theorem dpAll_strs {G : Hp} : ∀ {vs : List V} {ds : List D} {ns : List Str}, DpAll K G vs ds → strsOf ds = some ns → vs = ns.map V.str
  | _, _, _, .nil, e => by cases e; rfl
  | _, _, _, .cons (ds := ds) a b, e => by
    cases a with
    | str i =>
      rw [strsOf] at e
      obtain ⟨l, h1, h2⟩ := Option.map_eq_some_iff.mp e
      subst h2
      rw [dpAll_strs b h1]; rfl
    | _ => cases e
theorem dpAll_ofStrs {G : Hp} : ∀ ys : List Str, DpAll K G (ys.map V.str) (ys.map PyData.str)
  | [] => .nil
  | y :: ys => .cons (.str y) (dpAll_ofStrs ys)
theorem sem_tx2 {B : Str → Hp → Prop} {H G : Hp} {u : V} {z : Str} {y : D} {Q : VK} (s : Same G H) (hy : Dp K G u y) : ∀ o : Tx, Rs K B H G Q (tx2R o z y) → (match o with
    | .join => ∃ a p, ∃ ys : List Str, V.str z = .str a ∧ [u] = [.ref p] ∧ (SqL K H p (ys.map V.str) ∨ SqT K H p (ys.map V.str)) ∧ (ys.map (·.length)).sum + ys.length * a.length ≤ 16777216 ∧ Q (.str (Txt.join a ys)) H
    | .split => ∃ a b, V.str z = .str a ∧ [u] = [.str b] ∧ (b.length == 0) = false ∧ a.length + 2 ≤ sizeLine ∧ rNewStrs (Txt.split a b) H Q
    | .part => ∃ a b, V.str z = .str a ∧ [u] = [.str b] ∧ (b.length == 0) = false ∧ a.length ≤ sizeLine ∧ ∀ p, H p = none → Q (.ref p) (upd H p (.tup [.str (Txt.partition a b).1, .str (Txt.partition a b).2.1, .str (Txt.partition a b).2.2]))
    | .idx => ∃ a b i rest, V.str z = .str a ∧ [u] = [.str b] ∧ Builtin.Str.occurrences a b 0 a.length 1 = i :: rest ∧ Q (.int (i : Nat)) H
    | _ => False)
  | .str, h => h.elim
  | .isdig, h => h.elim
  | .join, h => by
    cases hy with
    | lst q r =>
      rename_i ds
      dsimp only [tx2R] at h
      cases e : strsOf ds with
      | none => rw [e] at h; exact h.elim
      | some ys =>
        rw [e] at h
        have z := dpAll_strs r e
        subst z
        have h : Rs K B H G Q (if (ys.map (·.length)).sum + ys.length * z.length ≤ 16777216 then .ok (.str (Txt.join z ys)) else .bad) := h
        split at h
        · exact ⟨_, _, ys, rfl, rfl, .inl (s.seq q), ‹_›, Rs.now h s (.str _)⟩
        · exact h.elim
    | _ => exact h.elim
  | .split, h => by
    cases hy with
    | str b =>
      dsimp only [tx2R] at h
      split at h
      · rename_i hc
        exact ⟨z, b, rfl, rfl, hc.1, hc.2, fun p hp => Rs.new h s hp (.lst (SqL.of upd_same) (dpAll_ofStrs _))⟩
      · exact h.elim
    | _ => exact h.elim
  | .part, h => by
    cases hy with
    | str b =>
      dsimp only [tx2R] at h
      split at h
      · rename_i hc
        exact ⟨z, b, rfl, rfl, hc.1, hc.2, fun p hp => Rs.new h s hp (.tup (SqT.of upd_same) (.cons (.str _) (.cons (.str _) (.cons (.str _) .nil))))⟩
      · exact h.elim
    | _ => exact h.elim
  | .idx, h => by
    cases hy with
    | str b =>
      dsimp only [tx2R] at h
      split at h
      · rename_i i rest e
        exact ⟨z, b, i, rest, rfl, rfl, e, Rs.now h s (.int _)⟩
      · exact h.elim
    | _ => exact h.elim
theorem tx2_read {σ : L2.St} {H : Hp} {Q : VK} {o : Tx} {ra rb : List Sl → R D} {r : V → List V → Hp → VK → Prop} (h : rdE K ca W (fun env => (ra env).bind fun x => (onStr x).bind fun z => (rb env).bind (tx2R o z)) σ H Q)
    (hr : ∀ (B : Str → Hp → Prop) (H G : Hp) (z : Str) (u : V) (y : D), Same G H → Dp K G u y → Rs K B H G Q (tx2R o z y) → r (.str z) [u] H Q) : tM1 r (rdE K ca W ra) (rdE K ca W rb) σ H Q := by
  obtain ⟨env, G, hg, he, hm⟩ := h
  refine ⟨env, G, hg, he, Rs.bind hm fun x v H1 G1 _ e1 hx hm1 => ?_⟩
  cases hx with
  | str z =>
    exact ⟨⟨z, rfl⟩, env, G1, e1.c, he.mono e1.b, Rs.bind (show Rs K (BX ca W σ) H1 G1 Q ((rb env).bind (tx2R o z)) from hm1) fun y u H2 G2 _ e2 hy hm2 => hr _ _ _ _ _ _ e2.c hy hm2⟩
  | _ => exact hm1.elim
theorem e_tx2 {a b : Expr} {o : Tx} {ap cp : Pos} {ra rb : List Sl → R D} (ho : tx2B o = true) (hl : (ap.endLine == cp.line) = true) (hb0 : baseB a = true) (ns : notStar b = true) (ha : PE X a (rdE X.K ca W ra)) (hb : PE X b (rdE X.K ca W rb)) :
    PE X (.Call (.Attribute a (txName o) ap) [b] [] cp) (rdE X.K ca W fun env => (ra env).bind fun x => (onStr x).bind fun z => (rb env).bind (tx2R o z)) := by
  cases o with
  | join => exact PE.imp (pe_join ha hb (star_cons ns) (base_ok hb0) hl) fun σ H Q h => tx2_read h fun B H G z u y s hy h => sem_tx2 s hy .join h
  | split => exact PE.imp (pe_split ha hb (star_cons ns) (base_ok hb0) hl) fun σ H Q h => tx2_read h fun B H G z u y s hy h => sem_tx2 s hy .split h
  | part => exact PE.imp (pe_partition ha hb (star_cons ns) (base_ok hb0) hl) fun σ H Q h => tx2_read h fun B H G z u y s hy h => sem_tx2 s hy .part h
  | idx => exact PE.imp (pe_m1 PySem.F.slot_str_index PySem.F.type_str_index mt_sindex ha hb (star_cons ns) (base_ok hb0) hl) fun σ H Q h => tx2_read h fun B H G z u y s hy h => sem_tx2 s hy .idx h
  | _ => cases ho
theorem e_str {a : Expr} {p pos : Pos} {ra : List Sl → R D} (hg : Gl X "str") (hm : X.mg "str" = none) (n : notStar a = true) (ha : PE X a (rdE X.K ca W ra)) :
    PE X (.Call (.Name "str" p) [a] [] pos) (rdE X.K ca W fun env => (ra env).bind (tx1R .str)) :=
  PE.imp (pe_callTy call_str_int hg hm (by decide +kernel) (pa_cons ha pa_nil (star_cons n)) (by decide +kernel) (by decide +kernel) (star_cons n) rfl) fun σ H Q ⟨env, G, hg, he, hm⟩ => ⟨env, G, hg, he, Rs.bind hm fun x v H1 G1 _ e1 hx hm1 => by
    cases hx with
    | int i =>
      dsimp only [tx1R] at hm1
      split at hm1
      · exact ⟨i, rfl, ‹_›, hm1.now e1.c (.str _)⟩
      · exact hm1.elim
    | _ => exact hm1.elim⟩
theorem e_isdig {a : Expr} {ap cp : Pos} {ra : List Sl → R D} (hl : (ap.endLine == cp.line) = true) (hb0 : baseB a = true) (ha : PE X a (rdE X.K ca W ra)) :
    PE X (.Call (.Attribute a "isdigit" ap) [] [] cp) (rdE X.K ca W fun env => (ra env).bind (tx1R .isdig)) :=
  PE.imp (pe_m0 PySem.F.slot_str_isdigit PySem.F.type_str_isdigit mt_isdigit ha (base_ok hb0) hl) fun σ H Q ⟨env, G, hg, he, hm⟩ => ⟨env, G, hg, he, Rs.bind hm fun x v H1 G1 _ e1 hx hm1 => by
    cases hx with
    | str z => exact ⟨⟨z, rfl⟩, z, rfl, rfl, trivial, hm1.now e1.c (.bl _)⟩
    | _ => exact hm1.elim⟩
/-- a dict of the module that holds texts by texts -/
structure DctV (X : Cx) (x : Str) (j : Nat) : Prop where
  ex : ∃ d es m, X.mg x = some (.ref d) ∧ KDict X.K X.w d es m ∧ ∀ z, ∃ r, PySem.W.nsIn X.K d z = some r ∧ r.isSome = ((dctV j).lookup z).isSome ∧ ∀ s, (dctV j).lookup z = some s → ∃ t, r = some (.str s t)
theorem e_ind {a : Expr} {x : Str} {j : Nat} {p pos : Pos} {ra : List Sl → R D} (Dc : DctV X x j) (hg : Gl X x) (hd : (x == ("__debug__" : Str)) = false) (ha : PE X a (rdE X.K ca W ra)) :
    Both X ca W (.Compare a [.In] [.Name x p] pos) (fun env => (ra env).bind (indR j)) := by
  obtain ⟨d, es, m, h1, h2, h3⟩ := Dc.ex
  have hb : PE X (.Name x p) (tC (.ref d)) := pe_glob hg h1 rfl hd
  have key : ∀ (B : Str → Hp → Prop) (H1 G1 : Hp) (y : D) (v : V) (Q : VK), Same G1 H1 → Dp X.K G1 v y → Rs X.K B H1 G1 Q (indR j y) → ∃ (z : Str) (r : Option Value), v = .str z ∧ (V.ref d : V) = .ref d ∧ PySem.W.nsIn X.K d z = some r ∧ Q (.bl r.isSome) H1 := by
    intro B H1 G1 y v Q s hx hm
    cases hx with
    | str z =>
      obtain ⟨r, r1, r2, _⟩ := h3 z
      exact ⟨z, r, rfl, rfl, r1, by rw [r2]; exact Rs.now hm s (.bl _)⟩
    | _ => exact hm.elim
  refine ⟨PE.imp (pe_cmpR (op_in_kd h2) ha hb rfl) fun σ H Q ⟨env, G, hg, he, hm⟩ => ⟨env, G, hg, he, Rs.bind hm fun y v H1 G1 _ e1 hx hm1 => key _ _ _ _ _ _ e1.c hx hm1⟩, ?_⟩
  exact PT.imp (pt_cmpR (op_in_kd h2) ha hb rfl) fun σ H Q h => by
    obtain ⟨env, G, hg, he, hm⟩ := rdT_val h
    exact ⟨env, G, hg, he, Rs.bind hm fun y v H1 G1 _ e1 hx hm1 => key _ _ _ _ _ _ e1.c hx hm1⟩
theorem e_dg {a : Expr} {x : Str} {j : Nat} {p pos : Pos} {ra : List Sl → R D} (Dc : DctV X x j) (hg : Gl X x) (hd : (x == ("__debug__" : Str)) = false) (hs : PlainIx a) (ha : PE X a (rdE X.K ca W ra)) :
    PE X (.Subscript (.Name x p) a pos) (rdE X.K ca W fun env => (ra env).bind (dgR j)) := by
  obtain ⟨d, es, m, h1, h2, h3⟩ := Dc.ex
  have hb : PE X (.Name x p) (tC (.ref d)) := pe_glob hg h1 rfl hd
  exact PE.imp (pe_ix ix_kdict hb ha hs) fun σ H Q ⟨env, G, hg, he, hm⟩ => ⟨env, G, hg, he, Rs.bind hm fun y v H1 G1 _ e1 hx hm1 => by
    cases hx with
    | str z =>
      dsimp only [dgR] at hm1
      cases e : (dctV j).lookup z with
      | none => rw [e] at hm1; exact hm1.elim
      | some s =>
        rw [e] at hm1
        obtain ⟨r, r1, _, r3⟩ := h3 z
        obtain ⟨t, rfl⟩ := r3 s e
        exact ⟨d, z, .str s, rfl, rfl, ⟨es, m, _, h2.at_, h2.lit, r1, ⟨t, rfl⟩⟩, Rs.now hm1 e1.c (.str _)⟩
    | _ => exact hm1.elim⟩
end
end Cw

set_option Elab.async false
set_option linter.all false
set_option maxRecDepth 100000
set_option maxHeartbeats 4000000
namespace Cw
open PySem PySem.Spec PyProof.Rows L2
/-! ### dicts that are written -/
section
variable {K : PySem.W.Frag} {ca : Str → Value} {W : WX} {X : Cx}
theorem Ext.shr {H G H' G' : Hp} {p : Addr} {o : HO} (hp : H p = none) (e : Ext (upd H p o) G H' G') : Ext H G H' G' :=
  ⟨(Same.upd hp).trans e.a, e.b, e.c, fun b u h n => e.d b u (by rw [upd_ne (ne_of_none h hp)]; exact h) n⟩
/-- the written keys, and what stands behind them -/
structure Disp (X : Cx) (ca : Str → Value) (W : WX) (pos : Pos) (keys : List (Option Expr)) (xs : List Expr) (ks : List Str) (r : List Sl → R (List D)) : Prop where
  ex : ∃ trs, PPs X pos keys xs trs ∧ ∀ (σ : L2.St) (H : Hp) (Q : List (V × V) → Hp → Prop) (env : List Sl) (G : Hp), Same G H → EnvR X.K G σ env → RsA X.K (BX ca W σ) H G (fun vs H' => Q ((ks.map V.str).zip vs) H') (r env) → tPairs trs σ H Q
  l1 : keys.length = ks.length
  l2 : xs.length = ks.length
  al : keys.all (·.isSome) = true
theorem disp_nil {pos : Pos} : Disp X ca W pos [] [] [] (fun _ => .ok []) :=
  ⟨⟨[], pps_nil, fun σ H Q env G s he hm => hm [] H G (Ext.refl s) .nil⟩, rfl, rfl, rfl⟩
theorem disp_cons {pos p : Pos} {z : Str} {kk : Nat} {x : Expr} {keys : List (Option Expr)} {xs : List Expr} {ks : List Str} {re : List Sl → R D} {rs : List Sl → R (List D)} (he : PE X x (rdE X.K ca W re)) (hr : Disp X ca W pos keys xs ks rs) :
    Disp X ca W pos (some (.Constant (.str z) kk p) :: keys) (x :: xs) (z :: ks) (fun env => (re env).bind fun d => (rs env).bind fun ds => .ok (d :: ds)) := by
  obtain ⟨trs, hp, rd⟩ := hr.ex
  refine ⟨⟨(tC (.str z), rdE X.K ca W re) :: trs, pps_cons pe_str he hp, fun σ H Q env G s hE hm => ?_⟩, by rw [List.length_cons, List.length_cons, hr.l1], by rw [List.length_cons, List.length_cons, hr.l2], by rw [List.all_cons, hr.al]; rfl⟩
  show rdE X.K ca W re σ H fun y H2 => tPairs trs σ H2 fun ps H3 => Q ((.str z, y) :: ps) H3
  refine ⟨env, G, s, hE, ?_⟩
  cases ea : re env with
  | exc c => rw [ea] at hm; exact hm
  | bad => rw [ea] at hm; exact hm
  | ok x =>
    rw [ea] at hm
    intro v H1 G1 e1 p1
    refine rd σ H1 _ env G1 e1.c (hE.mono e1.b) ?_
    have hm1 := RsA.step hm e1
    dsimp only [R.bind] at hm1
    cases eb : rs env with
    | exc c => rw [eb] at hm1; exact hm1
    | bad => rw [eb] at hm1; exact hm1
    | ok l =>
      rw [eb] at hm1
      exact fun vs H2 G2 e2 p2 => hm1 (v :: vs) H2 G2 e2 (.cons (dp_mono e2.b p1) p2)
/-! what a written dict holds -/
def keyK (ks : List Str) : List Key := ks.map Sum.inr
theorem zip_kV : ∀ (ks : List Str) (vs : List V), ((ks.map V.str).zip vs) = ((keyK ks).zip vs).map fun kv => (kV kv.1, kv.2)
  | [], vs => rfl
  | k :: ks, [] => rfl
  | k :: ks, v :: vs => by
    show (V.str k, v) :: ((ks.map V.str).zip vs) = (V.str k, v) :: ((keyK ks).zip vs).map _
    rw [zip_kV ks vs]
theorem val_none {kvs : List (Key × V)} {k : Key} (h : k ∉ kvs.map (·.1)) : valV kvs k = none := by
  induction kvs with
  | nil => rfl
  | cons p r ih =>
    rw [List.map_cons, List.mem_cons, not_or] at h
    rw [valV_neg fun e => h.1 e.symm, ih h.2]
theorem merge_nd : ∀ (more acc : List (Key × V)), ((acc ++ more).map (·.1)).Nodup → mergeK acc more = acc ++ more
  | [], acc, _ => (List.append_nil acc).symm
  | p :: r, acc, h => by
    have h1 : p.1 ∉ acc.map (·.1) := by
      rw [List.map_append, List.nodup_append] at h
      intro z
      exact h.2.2 _ z _ (by simp) rfl
    show mergeK (putK acc p.1 p.2) r = _
    rw [putK_new p.2 (val_none h1), merge_nd r _ (by rw [List.append_assoc]; exact h), List.append_assoc]
    rfl
theorem keys_zip : ∀ (ks : List Str) (vs : List V), (((keyK ks).zip vs).map (·.1)).Sublist (keyK ks)
  | [], vs => by cases vs <;> exact List.Sublist.refl _
  | k :: ks, [] => List.nil_sublist _
  | k :: ks, v :: vs => (keys_zip ks vs).cons₂ _
theorem keyK_nd {ks : List Str} (h : ks.Nodup) : (keyK ks).Nodup := by
  unfold keyK
  rw [List.nodup_iff_pairwise_ne, List.pairwise_map]
  exact (List.nodup_iff_pairwise_ne.mp h).imp fun n e => n (Sum.inr.inj e)
theorem val_zip {G : Hp} : ∀ {ks : List Str} {vs : List V} {ds : List D} {z : Str} {d : D}, DpAll K G vs ds → (ks.zip ds).lookup z = some d → ∃ v, valV ((keyK ks).zip vs) (Sum.inr z) = some v ∧ Dp K G v d
  | [], vs, ds, z, d, _, h => by simp at h
  | k :: ks, _, _, z, d, .nil, h => by simp at h
  | k :: ks, _, _, z, d, .cons (v := v) (vs := vs) (d := d0) (ds := ds) a b, h => by
    rw [List.zip_cons_cons, List.lookup_cons] at h
    by_cases e : z = k
    · subst e
      rw [beq_self_eq_true] at h
      cases h
      exact ⟨v, valV_pos rfl, a⟩
    · rw [beq_eq_false_iff_ne.mpr e] at h
      obtain ⟨u, h1, h2⟩ := val_zip b h
      exact ⟨u, (valV_neg (fun z => e (Sum.inr.inj z).symm)).trans h1, h2⟩
/-- {..}[a] -/
theorem e_dlit {keys : List (Option Expr)} {xs : List Expr} {ks : List Str} {r : List Sl → R (List D)} {ra : List Sl → R D} {xa : Expr} {p2 pos : Pos} (hu : X.A.units + 1 < cLine) (Dd : Disp X ca W p2 keys xs ks r) (h0 : ks ≠ []) (h15 : ks.length ≤ 15) (nd : ks.Nodup)
    (ha : PE X xa (rdE X.K ca W ra)) (hs : NoSl xa) : PE X (.Subscript (.Dict keys xs p2) xa pos) (rdE X.K ca W fun env => (r env).bind fun ds => (ra env).bind (lkR ks ds)) := by
  obtain ⟨trs, hp, rd⟩ := Dd.ex
  refine PE.imp (pe_dget hu (pe_disp hp Dd.al (by rw [Dd.l1, Dd.l2]) (fun e => h0 (List.length_eq_zero_iff.mp (by rw [← Dd.l1, e]; rfl))) (by rw [Dd.l1]; exact h15)) ha hs) fun σ H Q ⟨env, G, s, he, hm⟩ => ?_
  intro p hpn
  refine rd σ (upd H p (.dK [])) _ env G (s.trans (Same.upd hpn)) he ?_
  dsimp only at hm
  cases er : r env with
  | exc c => rw [er] at hm; exact fun H' G' e => hm H' G' (e.shr hpn)
  | bad => rw [er] at hm; exact hm
  | ok ds =>
    rw [er] at hm
    intro vs H2 G2 e p1
    refine ⟨e.a p _ upd_same, (keyK ks).zip vs, zip_kV ks vs, ?_, ?_⟩
    · rw [List.length_zip]
      unfold keyK
      rw [List.length_map]
      omega
    · have hG2 : G2 p = none := e.d p _ upd_same (s.free hpn)
      have ex : Ext H G (upd H2 p (.dK (mergeK [] ((keyK ks).zip vs)))) G2 := by
        have y := e.shr hpn
        exact ⟨fun b o z => by rw [upd_ne (ne_of_none z hpn)]; exact y.a b o z, y.b, fun b o z => by rw [upd_ne (ne_of_none z hG2)]; exact y.c b o z, y.d⟩
      refine ⟨env, G2, ex.c, he.mono ex.b, Rs.bind (Rs.step hm ex) fun y u H4 G4 _ e4 hx hm4 => ?_⟩
      cases hx with
      | str z =>
        dsimp only [lkR] at hm4
        cases el : (ks.zip ds).lookup z with
        | none => rw [el] at hm4; exact hm4.elim
        | some d =>
          rw [el] at hm4
          obtain ⟨v, h1, h2⟩ := val_zip p1 el
          have g := DGet.k (k := Sum.inr z) (e4.a p _ upd_same)
          rw [merge_nd _ [] (by rw [List.nil_append]; exact (keyK_nd nd).sublist (keys_zip ks vs)), List.nil_append, h1] at g
          exact ⟨p, v, rfl, g, hm4 v H4 G4 (Ext.refl e4.c) (dp_mono e4.b h2)⟩
      | _ => exact hm4.elim
/-- d.update(d2), both written -/
def rDUpd : V → List V → Hp → VK → Prop := fun x vs H Q => ∃ (a o : Addr) (kvs more : List (Key × V)), x = .ref a ∧ vs = [.ref o] ∧ a ≠ o ∧ H a = some (.dK kvs) ∧ H o = some (.dK more) ∧ kvs.length + more.length ≤ sizeLine ∧ Q .non (upd H a (.dK (mergeK kvs more)))
theorem mtd_update : MtR X "dict.update" rDUpd := by
  intro pins s σ H x vs v us Q I rx rv h
  obtain ⟨a, o, kvs, more, ex, ev, ne, e, e2, hz, q⟩ := h
  subst ex
  subst ev
  obtain rfl : v = Value.ref a := rx
  obtain ⟨u, rfl, ru⟩ := rv.one
  obtain rfl : u = Value.ref o := ru
  obtain ⟨z, hd, us1, rel, dd⟩ := dk_of I.hok e
  obtain ⟨z2, hd2, us2, rel2, dd2⟩ := dk_of I.hok e2
  refine call_meetsIn PySem.F.slot_dict_update dd.typeIs PySem.F.entry_dict_update (PySem.F.args_dict_update_2 _ _) (meets_dict_update (mixKind X.prog X.w) a o ne hd2)
    ⟨us1, us2, dd, dd2, by rw [← rel.length, ← rel2.length]; exact hz, fun h' hmm _ hs => ?_⟩
  have he : ∃ q, h'.get? a = some q := let ⟨q, _, _, hq, _⟩ := hmm; ⟨q, hq⟩
  have hl := length_mergeK more kvs
  exact ⟨.non, _, d_write I (by rw [e]; exact True.intro) hs he (dk_new (by omega) hd (rel2.merge rel) hmm), rfl, q⟩
end
end Cw

set_option Elab.async false
set_option linter.all false
set_option maxRecDepth 100000
set_option maxHeartbeats 4000000
namespace Cw
open PySem PySem.Spec PyProof.Rows L2

/-! ### the look: a term of the tongue is the text's expression -/
structure Gm where
  fns : List (Str × Nat)
  cons : List (Str × Nat)
  wrds : List (Str × Nat)
  dcts : List (Str × Nat)
  clss : List Nat := []
  mths : List (Nat × Str × Nat) := []
  inis : List (Nat × Nat) := []
  lfs : List (Str × Nat) := []
  dvs : List (Str × Nat) := []
  rfd : Bool := false
structure Lx where
  N : List Str
  sc : Scope
  fl : Str → Bool
  top : Bool
  me : Bool := false

def kindB (L : Lx) (x : Str) (k : NameKind) : Bool := decide (L.sc.names.lookup x = some k)
def noDbg (x : Str) : Bool := !(x == ("__debug__" : Str)) && !(x == ("__classdict__" : Str))
def glB (L : Lx) (x : Str) : Bool := kindB L x .globalImplicit && noDbg x
def visB (L : Lx) (x : Str) : Bool := (kindB L x .local || kindB L x .cell || kindB L x .free) && noDbg x
def tgB (L : Lx) (i : Nat) (x : Str) : Bool := decide (L.N[i]? = some x) && (kindB L x .local || (kindB L x .cell && L.fl x))
def chkK : D → Expr → Bool
  | .none, .Constant .none _ _ => true
  | .bool b, .Constant (.bool c) _ _ => decide (b = c)
  | .int b, .Constant (.int c) _ _ => decide (b = c)
  | .str b, .Constant (.str c) _ _ => decide (b = c)
  | _, _ => false
def chkTs (L : Lx) : List Nat → List Expr → Bool
  | [], [] => true
  | i :: l, .Name x _ :: es => tgB L i x && chkTs L l es
  | _, _ => false
def chkT (L : Lx) : Tg → Expr → Bool
  | .one i, .Name x _ => tgB L i x
  | .many l, .Tuple es _ _ => chkTs L l es
  | _, _ => false
def tgL : Tg → List Nat
  | .one i => [i]
  | .many l => l
def isMany : Tg → Bool
  | .many _ => true
  | _ => false
def ownN (N : List Str) (own : List Nat) : List (Str × Nat) := own.filterMap fun i => (N[i]?).map fun x => (x, i)
def notSlice : Expr → Bool
  | .Slice _ _ _ _ => false
  | _ => true
def notSet : Expr → Bool
  | .Set _ _ _ => false
  | _ => true
/-- the written keys of a dict -/
def keysB : List Str → List (Option Expr) → Bool
  | [], [] => true
  | z :: ks, some (.Constant (.str y) _ _) :: r => decide (y = z) && keysB ks r
  | _, _ => false
def inL (L : Lx) (scope : Scope) : Lx := ⟨L.N, relS scope L.sc, fun x => scope.names.lookup x == some .cell, false, L.me⟩

mutual
def chkE (g : Gm) : E → Lx → Expr → Bool
  | .k d, _, x => chkK d x
  | .v i, L, x => (match x with
    | .Name x _ => decide (L.N[i]? = some x) && visB L x
    | _ => false)
  | .g j, L, x => (match x with
    | .Name x _ => glB L x && g.cons.contains (x, j)
    | _ => false)
  | .tup es, L, x => (match x with
    | .Tuple xs _ _ => chkEs g es L xs && decide (xs.length ≤ 1000)
    | _ => false)
  | .lst es, L, x => (match x with
    | .List xs _ => chkEs g es L xs && decide (xs.length ≤ 1000)
    | _ => false)
  | .bin o a b, L, x => (match x with
    | .BinOp xa op xb _ => decide (op = opOf o) && (chkE g a L xa && chkE g b L xb)
    | _ => false)
  | .neg a, L, x => (match x with
    | .UnaryOp .USub xa _ => chkE g a L xa
    | _ => false)
  | .not a, L, x => (match x with
    | .UnaryOp .Not xa _ => chkE g a L xa
    | _ => false)
  | .and es, L, x => (match x with
    | .BoolOp .And xs _ => chkEs g es L xs && !xs.isEmpty
    | _ => false)
  | .or es, L, x => (match x with
    | .BoolOp .Or xs _ => chkEs g es L xs && !xs.isEmpty
    | _ => false)
  | .cmp o a b, L, x => (match x with
    | .Compare xa [op] [xb] _ => decide (op = cmOf o) && notSet xb && (chkE g a L xa && chkE g b L xb)
    | _ => false)
  | .cmp2 o o2 a b c, L, x => (match x with
    | .Compare xa [op, op2] [xb, xc] _ => decide (op = cmOf o) && decide (op2 = cmOf o2) && (!decide (o = .isin) && !decide (o = .nin)) && (!decide (o2 = .isin) && !decide (o2 = .nin)) && (chkE g a L xa && chkE g b L xb && chkE g c L xc)
    | _ => false)
  | .ife c a b, L, x => (match x with
    | .IfExp xc xa xb _ => chkE g c L xc && chkE g a L xa && chkE g b L xb
    | _ => false)
  | .ix a i, L, x => (match x with
    | .Subscript xa xi _ => notSlice xi && chkE g a L xa && chkE g i L xi
    | _ => false)
  | .sl a lo hi, L, x => (match x with
    | .Subscript xa (.Slice xl xh none _) _ => chkE g a L xa && chkO g lo L xl && chkO g hi L xh
    | _ => false)
  | .call f es, L, x => (match x with
    | .Call (.Name y _) (xe :: xs) [] _ => glB L y && g.fns.contains (y, f) && chkEs g es L (xe :: xs)
    | _ => false)
  | .bf f es, L, x => (match x with
    | .Call (.Name y _) (xe :: xs) [] _ => decide (y = bfName f) && glB L y && chkEs g es L (xe :: xs)
    | _ => false)
  | .isi a t, L, x => (match x with
    | .Call (.Name y _) [xa, .Name z _] [] _ => decide (y = ("isinstance" : Str)) && glB L y && decide (z = Str.ofString (tyName t)) && glB L z && chkE g a L xa
    | _ => false)
  | .lc own elt tg it c, L, x => (match x with
    | .ListComp xe [⟨xt, xi, xc, as⟩] scope _ => decide (as = 0) && decide ((ownN L.N own).map (·.2) = own) && blkC L.N L.sc scope (ownN L.N own) && (tgL tg).all (fun i => own.contains i) && chkT (inL L scope) tg xt
        && chkI g it L tg xi && chkC g c (inL L scope) xc && chkE g elt (inL L scope) xe
    | _ => false)
  | .rev a, L, x => (match x with
    | .Subscript xa (.Slice none none (some (.UnaryOp .USub (.Constant (.int c) _ _) _)) _) _ => decide (c = 1) && chkE g a L xa
    | _ => false)
  | .mx0 a, L, x => (match x with
    | .Call (.Name y _) [xa] [⟨some k, .Constant (.int c) _ _, _⟩] _ => decide (y = ("max" : Str)) && decide (k = ("default" : Str)) && decide (c = 0) && glB L y && chkE g a L xa
    | _ => false)
  | .ins a j, L, x => (match x with
    | .Compare xa [op] [.Name y _] _ => decide (op = .In) && glB L y && g.dcts.contains (y, j) && chkE g a L xa
    | _ => false)
  | .lens a, L, x => (match x with
    | .Call (.Name y _) [.Call (.Name z _) [xa] [] _] [] _ => decide (y = ("len" : Str)) && decide (z = ("set" : Str)) && glB L y && glB L z && chkE g a L xa
    | _ => false)
  | .lcx own elt tg it, L, x => (match x with
    | .ListComp xe [⟨xt, xi, [], as⟩] scope _ => L.top && decide (as = 0) && decide ((ownN L.N own).map (·.2) = own) && blkC L.N L.sc scope (ownN L.N own) && (tgL tg).all (fun i => own.contains i) && chkT (inL L scope) tg xt
        && chkI g it L tg xi && chkE g elt (inL L scope) xe
    | _ => false)
  | .orv a b, L, x => (match x with
    | .BoolOp .Or [xa, xb] _ => plainT xa && chkE g a L xa && chkE g b L xb
    | _ => false)
  | .cnt i b, L, x => (match x with
    | .Call (.Attribute (.Name y _) at_ ap) [xb] [] cp => decide (at_ = ("count" : Str)) && (ap.endLine == cp.line) && decide (L.N[i]? = some y) && visB L y && chkE g b L xb
    | _ => false)
  | .att i k j, L, x => (match x with
    | .Attribute (.Name y _) f _ => decide (L.N[i]? = some y) && visB L y && g.clss.contains k && decide ((clsF k)[j]? = some f) && !isDk k
    | _ => false)
  | .cln f a, L, x => (match x with
    | .Call (.Name y _) [xa, .List [] _] [] _ => glB L y && g.lfs.contains (y, f) && chkE g a L xa
    | _ => false)
  | .tx1 o a, L, x => (match x with
    | .Call (.Name y _) [xa] [] _ => decide (o = .str) && decide (y = ("str" : Str)) && glB L y && chkE g a L xa
    | .Call (.Attribute xa at_ ap) [] [] cp => decide (o = .isdig) && decide (at_ = ("isdigit" : Str)) && (ap.endLine == cp.line) && baseB xa && chkE g a L xa
    | _ => false)
  | .tx2 o a b, L, x => (match x with
    | .Call (.Attribute xa at_ ap) [xb] [] cp => tx2B o && decide (at_ = txName o) && (ap.endLine == cp.line) && baseB xa && chkE g a L xa && chkE g b L xb
    | _ => false)
  | .ind a j, L, x => (match x with
    | .Compare xa [op] [.Name y _] _ => decide (op = .In) && glB L y && g.dvs.contains (y, j) && chkE g a L xa
    | _ => false)
  | .dg j a, L, x => (match x with
    | .Subscript (.Name y _) xa _ => notSlice xa && glB L y && g.dvs.contains (y, j) && chkE g a L xa
    | _ => false)
  | .din i k j a, L, x => (match x with
    | .Compare xa [op] [.Attribute (.Name y _) f _] _ => decide (op = .In) && decide (L.N[i]? = some y) && visB L y && g.clss.contains k && decide ((clsF k)[j]? = some f) && chkE g a L xa
    | _ => false)
  | .dat i k j a, L, x => (match x with
    | .Subscript (.Attribute (.Name y _) f _) xa _ => notSlice xa && decide (L.N[i]? = some y) && visB L y && g.clss.contains k && decide ((clsF k)[j]? = some f) && chkE g a L xa
    | _ => false)
  | .dlit ks es a, L, x => (match x with
    | .Subscript (.Dict keys xs _) xa _ => notSlice xa && keysB ks keys && !ks.isEmpty && decide (ks.length ≤ 15) && decide ks.Nodup && decide (ks.length = xs.length) && chkEs g es L xs && chkE g a L xa
    | _ => false)
def chkEs (g : Gm) : Es → Lx → List Expr → Bool
  | .nil, _, x => x.isEmpty
  | .cons e es, L, x => (match x with
    | x :: xs => chkE g e L x && chkEs g es L xs
    | _ => false)
def chkO (g : Gm) : Eo → Lx → Option Expr → Bool
  | .no, _, x => x.isNone
  | .yes e, L, x => (match x with
    | some x => chkE g e L x
    | _ => false)
def chkC (g : Gm) : Eo → Lx → List Expr → Bool
  | .no, _, x => x.isEmpty
  | .yes e, L, x => (match x with
    | [x] => chkE g e L x
    | _ => false)
def chkI (g : Gm) : It → Lx → Tg → Expr → Bool
  | .seq e, L, _, x => notSet x && chkE g e L x
  | .rng1 e, L, _, x => (match x with
    | .Call (.Name y _) [xa] [] _ => decide (y = ("range" : Str)) && glB L y && chkE g e L xa
    | _ => false)
  | .rng3 a b c, L, _, x => (match x with
    | .Call (.Name y _) [xa, xb, xc] [] _ => decide (y = ("range" : Str)) && glB L y && chkE g a L xa && chkE g b L xb && chkE g c L xc
    | _ => false)
  | .rng2 a b, L, _, x => (match x with
    | .Call (.Name y _) [xa, xb] [] _ => decide (y = ("range" : Str)) && glB L y && chkE g a L xa && chkE g b L xb
    | _ => false)
  | .enum e, L, t, x => (match x with
    | .Call (.Name y _) [xa] [] _ => isMany t && decide (y = ("enumerate" : Str)) && glB L y && chkE g e L xa
    | _ => false)
  | .zip a b, L, t, x => (match x with
    | .Call (.Name y _) [xa, xb] [] _ => isMany t && decide (y = ("zip" : Str)) && glB L y && chkE g a L xa && chkE g b L xb
    | _ => false)
end

/-- the built-in names that are left as they are -/
def blts : List Str := ["len", "abs", "max", "min", "int", "sum", "all", "any", "tuple", "list", "isinstance", "bool", "str", "range", "enumerate", "zip", "set"]

/-! ### fields -/
theorem clsF_nd : ∀ k : Nat, (clsF k).Nodup := by
  intro k
  unfold clsF
  split <;> decide +kernel
theorem clsF_len : ∀ k : Nat, (clsF k).length ≤ 10 := by
  intro k
  unfold clsF
  split <;> decide +kernel
theorem zip_lookup {β : Type} : ∀ {l : List Str} {us : List β} {j : Nat} {x : Str} {u : β}, l.Nodup → l[j]? = some x → us[j]? = some u → (l.zip us).lookup x = some u
  | [], us, j, x, u, _, h, _ => by simp at h
  | a :: l, [], j, x, u, _, _, h => by simp at h
  | a :: l, v :: us, 0, x, u, nd, h, g => by
    simp at h g
    subst h g
    simp [List.lookup]
  | a :: l, v :: us, j + 1, x, u, nd, h, g => by
    simp only [List.getElem?_cons_succ] at h g
    rw [List.nodup_cons] at nd
    have z : (x == a) = false := by
      cases q : (x == a) with
      | false => rfl
      | true => rw [eq_of_beq q] at h; exact (nd.1 (List.mem_of_getElem? h)).elim
    rw [List.zip_cons_cons]
    simp only [List.lookup, z]
    exact zip_lookup nd.2 h g
theorem e_att {X : Cx} {ca : Str → Value} {W : WX} {y f : Str} {i k j : Nat} {py pos : Pos} (nk : isDk k = false) (c : Cls X.K (clsA X.K k)) (na : NoAttr X.K (clsA X.K k) f) (hf : (clsF k)[j]? = some f) (hv : PE X (.Name y py) (tVar i)) :
    PE X (.Attribute (.Name y py) f pos) (rdE X.K ca W fun env => attR env i k j) :=
  PE.imp (pe_fld hv rfl) fun σ H Q ⟨env, G, s, he, hm⟩ => by
    unfold attR at hm
    dsimp only at hm
    cases q : env[i]? with
    | none => rw [q] at hm; exact hm.elim
    | some z =>
      rw [q] at hm
      cases z with
      | ob b k' fs =>
        dsimp only at hm
        split at hm
        · rename_i hk
          subst hk
          obtain ⟨p, dx, vs, a1, a2, a3⟩ := he.ob i b _ fs q
          cases qd : fs[j]? with
          | none => rw [qd] at hm; exact hm.elim
          | some d =>
            rw [qd] at hm
            obtain ⟨v, v1, v2⟩ := dpAll_get (a3.dp nk) qd
            exact ⟨.ref p, a1, p, _, dx, _, v, rfl, s _ _ a2, c, na, zip_lookup (clsF_nd _) hf v1, hm v H G (Ext.refl s) v2⟩
        · exact hm.elim
      | _ => exact hm.elim

theorem isK_str {z y : Str} {d : D} : isK z (.str y, d) = decide (y = z) := rfl
theorem kvR_get {K : PySem.W.Frag} {G : Hp} {z : Str} : ∀ {kvs : List (Key × V)} {ps : List (D × D)}, KvR K G kvs ps → (lkD ps z = none ∧ valV kvs (Sum.inr z) = none) ∨ ∃ d v, lkD ps z = some d ∧ valV kvs (Sum.inr z) = some v ∧ Dp K G v d
  | _, _, .nil => .inl ⟨rfl, rfl⟩
  | (k, v) :: kvs, (a, d) :: ps, .cons ⟨y, e1, e2, e3⟩ r => by
    dsimp only at e1 e2 e3
    subst e1 e2
    by_cases h : y = z
    · subst h
      refine .inr ⟨d, v, ?_, valV_pos rfl, e3⟩
      unfold lkD
      rw [List.find?_cons, isK_str, decide_eq_true rfl]; rfl
    · have h1 : lkD ((.str y, d) :: ps) z = lkD ps z := by
        unfold lkD
        rw [List.find?_cons, isK_str, decide_eq_false h]
      have h2 : valV ((Sum.inr y, v) :: kvs) (Sum.inr z) = valV kvs (Sum.inr z) := valV_neg fun w => h (Sum.inr.inj w)
      rw [h1, h2]
      exact kvR_get r
theorem kvR_any {K : PySem.W.Frag} {G : Hp} {z : Str} : ∀ {kvs : List (Key × V)} {ps : List (D × D)}, KvR K G kvs ps → (kvs.any fun kv => decide (kv.1 = (Sum.inr z : Key))) = ps.any (isK z)
  | _, _, .nil => rfl
  | (k, v) :: kvs, (a, d) :: ps, .cons ⟨y, e1, e2, e3⟩ r => by
    dsimp only at e1 e2 e3
    subst e1 e2
    rw [List.any_cons, List.any_cons, kvR_any r, isK_str]
    congr 1
    by_cases h : y = z
    · subst h; rw [decide_eq_true rfl, decide_eq_true rfl]
    · rw [decide_eq_false h, decide_eq_false fun w => h (Sum.inr.inj w)]
theorem kvR_map {K : PySem.W.Frag} {G : Hp} {z : Str} {v : V} {d : D} (q : Dp K G v d) : ∀ {kvs : List (Key × V)} {ps : List (D × D)}, KvR K G kvs ps → KvR K G (kvs.map fun kv => if kv.1 = (Sum.inr z : Key) then (kv.1, v) else kv) (ps.map fun p => if isK z p = true then (p.1, d) else p)
  | _, _, .nil => .nil
  | (k, v1) :: kvs, (a, d1) :: ps, .cons ⟨y, e1, e2, e3⟩ r => by
    dsimp only at e1 e2 e3
    subst e1 e2
    rw [List.map_cons, List.map_cons]
    refine .cons ?_ (kvR_map q r)
    by_cases h : y = z
    · subst h
      rw [if_pos rfl, if_pos (by rw [isK_str, decide_eq_true rfl])]
      exact ⟨_, rfl, rfl, q⟩
    · rw [if_neg fun w => h (Sum.inr.inj w), if_neg (by rw [isK_str, decide_eq_false h]; exact Bool.false_ne_true)]
      exact ⟨_, rfl, rfl, e3⟩
theorem kvR_app {K : PySem.W.Frag} {G : Hp} {z : Str} {v : V} {d : D} (q : Dp K G v d) : ∀ {kvs : List (Key × V)} {ps : List (D × D)}, KvR K G kvs ps → KvR K G (kvs ++ [((Sum.inr z : Key), v)]) (ps ++ [(.str z, d)])
  | _, _, .nil => .cons ⟨_, rfl, rfl, q⟩ .nil
  | _ :: _, _ :: _, .cons e r => .cons e (kvR_app q r)
theorem kvR_put {K : PySem.W.Frag} {G : Hp} {z : Str} {v : V} {d : D} {kvs : List (Key × V)} {ps : List (D × D)} (q : Dp K G v d) (h : KvR K G kvs ps) : KvR K G (putK kvs (Sum.inr z) v) (putD ps z d) := by
  unfold putK putD
  rw [kvR_any h]
  split
  · exact kvR_map q h
  · exact kvR_app q h
theorem kvR_len {K : PySem.W.Frag} {G : Hp} {kvs : List (Key × V)} {ps : List (D × D)} (h : KvR K G kvs ps) : kvs.length = ps.length := Paired.length h
theorem putK_len {kvs : List (Key × V)} {k : Key} {v : V} : (putK kvs k v).length ≤ kvs.length + 1 := by
  unfold putK
  split
  · rw [List.length_map]; omega
  · rw [List.length_append]; simp
theorem dk_get {K : PySem.W.Frag} {G H : Hp} : ∀ {vs : List V} {fs : List D} {j : Nat} {d : D}, DkAll K G H vs fs → fs[j]? = some d → ∃ t kvs ps, vs[j]? = some (.ref t) ∧ H t = some (.dK kvs) ∧ KvR K G kvs ps ∧ kvs.length ≤ 1000000 ∧ d = .dict ps
  | _, _, j, d, .nil, h => by cases j <;> cases h
  | _, _, 0, d, .cons a b c e, h => by cases h; exact ⟨_, _, _, rfl, a, b, c, rfl⟩
  | _, _, j + 1, d, .cons a b c e, h => by
    have z := dk_get (j := j) e (by simpa using h)
    simpa using z
/-- the dict that is field j of the object in slot i -/
theorem attK_ok {K : PySem.W.Frag} {G : Hp} {σ : L2.St} {env : List Sl} {i k j : Nat} {d : D} (he : EnvR K G σ env) (h : attK env i k j = .ok d) : ∃ p dx vs t kvs ps, σ[i]? = some (some (.ref p)) ∧ G p = some (insO K k dx vs) ∧ vs[j]? = some (.ref t) ∧ G t = some (.dK kvs) ∧ KvR K G kvs ps ∧ kvs.length ≤ 1000000 ∧ d = .dict ps ∧ isDk k = true := by
  unfold attK at h
  cases q : env[i]? with
  | none => rw [q] at h; cases h
  | some z =>
    rw [q] at h
    cases z with
    | ob b k' fs =>
      dsimp only at h
      split at h
      · rename_i hk
        obtain ⟨hk, n⟩ := hk
        subst hk
        obtain ⟨p, dx, vs, a1, a2, a3⟩ := he.ob i b _ fs q
        cases qd : fs[j]? with
        | none => rw [qd] at h; cases h
        | some d2 =>
          rw [qd] at h
          cases h
          obtain ⟨t, kvs, ps, b1, b2, b3, b4, b5⟩ := dk_get (a3.dk n).1 qd
          exact ⟨p, dx, vs, t, kvs, ps, a1, a2, b1, b2, b3, b4, b5, n⟩
      · cases h
    | _ => cases h
theorem attK_not {env : List Sl} {i k j : Nat} {c : Str} : attK env i k j ≠ .exc c := by
  unfold attK
  intro h
  split at h
  · split at h
    · rename_i fs _ _
      cases q : fs[j]? with
      | none => rw [q] at h; cases h
      | some _ => rw [q] at h; cases h
    · cases h
  · cases h
theorem din_rd {X : Cx} {ca : Str → Value} {W : WX} {f : Str} {i k j : Nat} {ra : List Sl → R D} (c : Cls X.K (clsA X.K k)) (na : NoAttr X.K (clsA X.K k) f) (hf : (clsF k)[j]? = some f) {σ : L2.St} {H : Hp} {Q : VK} (h : rdE X.K ca W (fun env => (ra env).bind fun z => (attK env i k j).bind fun d => dinR d z) σ H Q) :
    tDIn (rdE X.K ca W ra) (tFld X.K (tVar i) f) σ H Q := by
  obtain ⟨env, G, s, he, hm⟩ := h
  refine ⟨env, G, s, he, Rs.bind hm fun z v H1 G1 _ e1 hx hm1 => ?_⟩
  cases ek : attK env i k j with
  | exc c => exact (attK_not ek).elim
  | bad => rw [ek] at hm1; exact hm1.elim
  | ok d =>
    rw [ek] at hm1
    obtain ⟨p, dx, vs, t, kvs, ps, a1, a2, a3, a4, a5, a6, a7, a8⟩ := attK_ok (he.mono e1.b) ek
    subst a7
    cases hx with
    | str z =>
      have g := DGet.k (k := Sum.inr z) (e1.c t _ a4)
      refine ⟨.ref p, a1, p, _, dx, _, .ref t, rfl, e1.c _ _ a2, c, na, zip_lookup (clsF_nd _) hf a3, t, _, rfl, g, ?_⟩
      have n := Rs.now hm1 e1.c (.bl _)
      rcases kvR_get (z := z) a5 with ⟨b1, b2⟩ | ⟨d, u, b1, b2, _⟩
      · rw [b2]; rw [b1] at n; exact n
      · rw [b2]; rw [b1] at n; exact n
    | _ => exact hm1.elim
theorem e_din {X : Cx} {ca : Str → Value} {W : WX} {y f : Str} {i k j : Nat} {py ap pos : Pos} {xa : Expr} {ra : List Sl → R D} (hu : X.A.units + 1 < cLine) (c : Cls X.K (clsA X.K k)) (na : NoAttr X.K (clsA X.K k) f) (hf : (clsF k)[j]? = some f) (hv : PE X (.Name y py) (tVar i)) (ha : PE X xa (rdE X.K ca W ra)) :
    Both X ca W (.Compare xa [.In] [.Attribute (.Name y py) f ap] pos) (fun env => (ra env).bind fun z => (attK env i k j).bind fun d => dinR d z) :=
  ⟨PE.imp (pe_cmp (pc_din hu ha (pe_fld hv rfl)) rfl) fun σ H Q h => din_rd c na hf h, PT.imp (pt_cmp (pc_din hu ha (pe_fld hv rfl)) rfl) fun σ H Q h => din_rd c na hf (rdT_val h)⟩
theorem e_dat {X : Cx} {ca : Str → Value} {W : WX} {y f : Str} {i k j : Nat} {py ap pos : Pos} {xa : Expr} {ra : List Sl → R D} (hu : X.A.units + 1 < cLine) (c : Cls X.K (clsA X.K k)) (na : NoAttr X.K (clsA X.K k) f) (hf : (clsF k)[j]? = some f) (hv : PE X (.Name y py) (tVar i)) (ha : PE X xa (rdE X.K ca W ra)) (hs : NoSl xa) :
    PE X (.Subscript (.Attribute (.Name y py) f ap) xa pos) (rdE X.K ca W fun env => (attK env i k j).bind fun d => (ra env).bind fun z => datR d z) :=
  PE.imp (pe_dget hu (pe_fld hv rfl) ha hs) fun σ H Q ⟨env, G, s, he, hm⟩ => by
    dsimp only at hm
    cases ek : attK env i k j with
    | exc c => exact (attK_not ek).elim
    | bad => rw [ek] at hm; exact hm.elim
    | ok d =>
      rw [ek] at hm
      obtain ⟨p, dx, vs, t, kvs, ps, a1, a2, a3, a4, a5, a6, a7, a8⟩ := attK_ok he ek
      subst a7
      refine ⟨.ref p, a1, p, _, dx, _, .ref t, rfl, s _ _ a2, c, na, zip_lookup (clsF_nd _) hf a3, env, G, s, he, Rs.bind hm fun z v H1 G1 _ e1 hx hm1 => ?_⟩
      cases hx with
      | str z =>
        have g := DGet.k (k := Sum.inr z) (e1.a t _ (s t _ a4))
        dsimp only [datR] at hm1
        rcases kvR_get (z := z) a5 with ⟨b1, b2⟩ | ⟨d, u, b1, b2, b3⟩
        · rw [b1] at hm1; exact hm1.elim
        · rw [b1] at hm1
          rw [b2] at g
          exact ⟨t, u, rfl, g, Rs.now hm1 e1.c (dp_mono e1.b b3)⟩
      | _ => exact hm1.elim
/-- where a body stands -/
theorem takesN0 {X : Cx} : L2N.Takes X (fun _ _ _ _ => False) := fun _ _ ⟨_, _, _, _, _, _, _, _, _, _, _, _, _, _, _, _, w⟩ => w.elim
/-- what the program's classes must say -/
structure ClsOk (K : PySem.W.Frag) (mg : Str → Option Value) (k : Nat) : Prop where
  mg : mg (clsN k) = some (.ref (clsA K k))
  cls : Cls K (clsA K k)
  noat : ∀ f ∈ clsF k, NoAttr K (clsA K k) f
/-- what the method numbered i of the class k promises, within n calls -/
def RsB (K : PySem.W.Frag) (B : Str → Hp → Prop) (H G : Hp) (p dx : Addr) (k : Nat) (Q : VK) : R (D × List D) → Prop
  | .ok r => ∀ v H' G' ws, Ext (delL H (rg H k p)) G (delL H' (rg H' k p)) G' → H' p = some (insO K k dx ws) → FlR K G' H' k ws r.2 → (∀ r ∈ rg H' k p, G' r = none) → Dp K G' v r.1 → Q v H'
  | .exc c => ∀ H' G' ws, Ext (delL H (rg H k p)) G (delL H' (rg H' k p)) G' → H' p = some (insO K k dx ws) → (∀ r ∈ rg H' k p, (∃ o, H' r = some o) ∧ ∀ ws, H' r ≠ some (.lst ws)) → B c H'
  | .bad => False
/-- a class that keeps: its exceptions tell the object -/
def RsX (K : PySem.W.Frag) (B : Str → Hp → Prop) (H G : Hp) (p dx : Addr) (k : Nat) (Q : VK) : XR → Prop
  | .ok d fs => ∀ v H' G' ws, Ext (delL H (rg H k p)) G (delL H' (rg H' k p)) G' → H' p = some (insO K k dx ws) → FlR K G' H' k ws fs → (∀ r ∈ rg H' k p, G' r = none) → Dp K G' v d → Q v H'
  | .exc c fs => ∀ H' G' ws, Ext (delL H (rg H k p)) G (delL H' (rg H' k p)) G' → H' p = some (insO K k dx ws) → FlR K G' H' k ws fs → (∀ r ∈ rg H' k p, G' r = none) → B c H'
  | .bad => False
def RsY (K : PySem.W.Frag) (B : Str → Hp → Prop) (H G : Hp) (p dx : Addr) (k : Nat) (Q : VK) (r : R D) : Prop := if isDk k = true then (metO r ≠ .bad → RsB K B H G p dx k Q (metO r)) ∧ (metO r = .bad → RsX K B H G p dx k Q (metX r)) else RsB K B H G p dx k Q (metO r)
theorem RsY.of {K : PySem.W.Frag} {B : Str → Hp → Prop} {H G : Hp} {p dx : Addr} {k : Nat} {Q : VK} {r : R D} (n : metO r ≠ .bad) (h : RsB K B H G p dx k Q (metO r)) : RsY K B H G p dx k Q r := by
  unfold RsY
  split
  · exact ⟨fun _ => h, fun e => (n e).elim⟩
  · exact h
def spM (T : Nat → Option Def) (ca : Str → Value) (K : PySem.W.Frag) (n i k : Nat) : Sp := fun vs H Q E => ∃ p dx ws fs as ds G, vs = .ref p :: as ∧ H p = some (insO K k dx ws) ∧ FlR K G H k ws fs ∧ (∀ r ∈ rg H k p, G r = none) ∧ Same G H ∧ DpAll K G as ds ∧
  RsY K (BXE ca E) H G p dx k Q (evc T n i (.tuple fs :: ds))
structure CxOk (T : Nat → Option Def) (g : Gm) (ca : Str → Value) (n : Nat) (L : Lx) (X : Cx) : Prop where
  hN : X.N = L.N
  hsc : X.env.scope = L.sc
  hfl : X.fn = L.fl
  htop : L.top = true → X.stack = X.env :: X.outer ∧ X.env.frame = some X.env.locals
  nd : X.N.Nodup
  calm : X.calm = true
  room : Room (n + 46) X.A
  pyl : Pyl X
  blt : ∀ x ∈ blts, X.mg x = none
  cons : ∀ x j, (x, j) ∈ g.cons → ∃ u v, X.mg x = some u ∧ RelV v u ∧ ∀ H, Dp X.K H v (cst j)
  fns : ∀ x i, (x, i) ∈ g.fns → ∃ f fd ps, X.mg x = some (.ref f) ∧ PySem.W.keepIn X.K (.ref f) = true ∧ Binds X.K fd ps [] ∧ FnOk X.prog X.w X.K X.mg X.base (L2N.CX X.prog X.w) (n + 46) f fd ps (spF T ca X.K n i)
  dcts : ∀ x j, (x, j) ∈ g.dcts → DctOk X x j
  clss : ∀ k ∈ g.clss, ClsOk X.K X.mg k
  mths : ∀ k m i, (k, m, i) ∈ g.mths → ∃ f fd ps, Meth X.K (clsA X.K k) m f ∧ Binds X.K fd ps [] ∧ FnOk X.prog X.w X.K X.mg X.base (L2N.CX X.prog X.w) (n + 46) f fd ps (spM T ca X.K n i k)
  inis : ∀ k i, (k, i) ∈ g.inis → ∃ f fd ps, Mk X.K (clsA X.K k) f ∧ Binds X.K fd ps [] ∧ FnOk X.prog X.w X.K X.mg X.base (L2N.CX X.prog X.w) (n + 45) f fd ps (spM T ca X.K n i k)
  lfs : ∀ x i, (x, i) ∈ g.lfs → ∃ f fd ps, X.mg x = some (.ref f) ∧ PySem.W.keepIn X.K (.ref f) = true ∧ Binds X.K fd ps [] ∧ FnOk X.prog X.w X.K X.mg X.base (L2N.CX X.prog X.w) (n + 46) f fd ps (spL T X.K n i)
  dvs : ∀ x j, (x, j) ∈ g.dvs → DctV X x j

section
variable {T : Nat → Option Def} {g : Gm} {ca : Str → Value} {n : Nat} {L : Lx} {X : Cx}
theorem CxOk.un (C : CxOk T g ca n L X) : X.A.units + 65 < cLine := by have := C.room.un; omega
theorem CxOk.gl (C : CxOk T g ca n L X) {x : Str} (h : glB L x = true) : Gl X x := by
  unfold glB kindB at h
  rw [Bool.and_eq_true, decide_eq_true_eq] at h
  show X.env.scope.names.lookup x = _
  rw [C.hsc]; exact h.1
theorem dbg_of {x : Str} (h : noDbg x = true) : (x == ("__debug__" : Str)) = false ∧ (x == ("__classdict__" : Str)) = false := by
  unfold noDbg at h
  rw [Bool.and_eq_true] at h
  exact ⟨by simpa using h.1, by simpa using h.2⟩
theorem glB_dbg {x : Str} (h : glB L x = true) : (x == ("__debug__" : Str)) = false := by
  unfold glB at h
  rw [Bool.and_eq_true] at h
  exact (dbg_of h.2).1
theorem CxOk.vis (C : CxOk T g ca n L X) {x : Str} (h : visB L x = true) : Vis X.env.scope x := by
  unfold visB kindB at h
  simp only [Bool.and_eq_true, Bool.or_eq_true, decide_eq_true_eq] at h
  unfold Vis
  rw [C.hsc]
  rcases h.1 with (h | h) | h
  · exact .inl h
  · exact .inr (.inl h)
  · exact .inr (.inr h)
theorem CxOk.tg (C : CxOk T g ca n L X) {i : Nat} {x : Str} (h : tgB L i x = true) : X.N[i]? = some x ∧ L2.Loc X.env.scope x ∧ (X.fn x = true ∨ X.env.scope.names.lookup x = some .local) := by
  unfold tgB kindB at h
  simp only [Bool.and_eq_true, Bool.or_eq_true, decide_eq_true_eq] at h
  rw [C.hN, C.hfl]
  unfold L2.Loc
  rw [C.hsc]
  obtain ⟨h1, h2⟩ := h
  refine ⟨h1, ?_⟩
  rcases h2 with h2 | ⟨h2, h3⟩
  · exact ⟨.inl h2, .inr h2⟩
  · exact ⟨.inr h2, .inl h3⟩
theorem CxOk.pgs (C : CxOk T g ca n L X) : ∀ {l : List Nat} {es : List Expr}, chkTs L l es = true → PGs X es (gMany l) ∧ (assignEach es X.env).length = l.length ∧ (assignEach es X.env).findIdx? (·.1) = none
  | [], [], _ => ⟨pgs_nil, rfl, rfl⟩
  | [], _ :: _, h => by cases h
  | _ :: _, [], h => by cases h
  | i :: l, e :: es, h => by
    cases e with
    | Name x p =>
      have h : (tgB L i x && chkTs L l es) = true := h
      rw [Bool.and_eq_true] at h
      obtain ⟨a, b, c⟩ := C.pgs h.2
      obtain ⟨t1, t2, t3⟩ := C.tg h.1
      refine ⟨pgs_cons (pg_name C.nd t1 t2 t3) a rfl, ?_, ?_⟩
      · show (assignEach es X.env).length + 1 = l.length + 1
        rw [b]
      · show ((false, assign (.Name x p) X.env) :: assignEach es X.env).findIdx? (·.1) = none
        rw [List.findIdx?_cons, c]; rfl
    | _ => cases h
theorem CxOk.pg (C : CxOk T g ca n L X) {t : Tg} {e : Expr} (h : chkT L t e = true) : PG X e (gT X.K t) := by
  cases t with
  | one i => cases e with
    | Name x p =>
      obtain ⟨t1, t2, t3⟩ := C.tg (i := i) (x := x) h
      exact pg_name C.nd t1 t2 t3
    | _ => cases h
  | many l => cases e with
    | Tuple es k p =>
      obtain ⟨a, b, c⟩ := C.pgs (l := l) (es := es) h
      exact pg_tup C.calm a b c
    | _ => cases h
theorem CxOk.blk (C : CxOk T g ca n L X) {s : Shared} {H : Hp} {scope : Scope} {cl : List (Str × Addr)} {Ca : Addr} {fp : List Addr} : CxOk T g ca n (inL L scope) (X.blk s H scope (compEnvC scope cl Ca X.env) fp) :=
  ⟨C.hN, by show relabel scope X.env = relS scope L.sc; rw [← C.hsc]; rfl, rfl, (fun z => nomatch (show false = true from z)), C.nd, C.calm, C.room, ⟨C.pyl.room, C.pyl.seer, C.pyl.tree, C.pyl.top⟩, C.blt, C.cons, C.fns, fun x j h => ⟨(C.dcts x j h).ex⟩, C.clss, C.mths, C.inis, C.lfs, fun x j h => ⟨(C.dvs x j h).ex⟩⟩

theorem evs_len {F : Nat → List D → R D} {env : List Sl} : ∀ {es : Es} {L : Lx} {xs : List Expr} {ds : List D}, chkEs g es L xs = true → evs F env es = .ok ds → ds.length = xs.length
  | .nil, L, xs, ds, h, e => by
    unfold evs at e
    cases e
    unfold chkEs at h
    cases xs with
    | nil => rfl
    | cons _ _ => cases h
  | .cons e0 es, L, xs, ds, h, e => by
    unfold chkEs at h
    cases xs with
    | nil => cases h
    | cons x xs =>
      dsimp only at h
      rw [Bool.and_eq_true] at h
      unfold evs at e
      cases e1 : ev F env e0 with
      | ok d =>
        rw [e1] at e
        dsimp only [R.bind] at e
        cases e2 : evs F env es with
        | ok l =>
          rw [e2] at e
          cases e
          rw [List.length_cons, List.length_cons, evs_len h.2 e2]
        | _ => rw [e2] at e; cases e
      | _ => rw [e1] at e; cases e

theorem plainIx_of {b : Expr} (h : notSlice b = true) : PlainIx b := fun _ _ => by
  cases b <;> first | rfl | cases h
theorem marks_of {b : Expr} {op : CmpOp} (h : notSet b = true) : behindInMarks op b = false := by
  cases b <;> first | rfl | cases h
theorem folded_of {b : Expr} {env : Env} (h : notSet b = true) : ∀ x, foldedSetIterable b env x = pure x := fun x => by
  cases b <;> first | rfl | cases h

/-- the parts of a comprehension -/
structure LcParts (X : Cx) (ca : Str → Value) (W : WX) (elt tg iter : Expr) (ifs : List Expr) (scope : Scope) (own : List (Str × Nat)) (r : List Sl → R D) : Prop where
  ex : ∃ wi gg tt te, PI X tg iter wi ∧ BlkOk X.N X.env.scope scope own ∧ (∀ (s : Shared) (H : Hp) (C : Addr) (cl : List (Str × Addr)) (fp : List Addr), PG (X.blk s H scope (compEnvC scope cl C X.env) fp) tg gg)
    ∧ (∀ (s : Shared) (H : Hp) (C : Addr) (cl : List (Str × Addr)) (fp : List Addr), PTs (X.blk s H scope (compEnvC scope cl C X.env) fp) ifs tt)
    ∧ (∀ (s : Shared) (H : Hp) (C : Addr) (cl : List (Str × Addr)) (fp : List Addr), PE (X.blk s H scope (compEnvC scope cl C X.env) fp) elt te)
    ∧ (∀ x, foldedSetIterable iter X.env x = pure x) ∧ ∀ σ H Q, rdL X.K ca W r σ H Q → tLc wi gg tt te (own.map (·.2)) σ H Q
theorem LcParts.pe {W : WX} {elt tg iter : Expr} {ifs : List Expr} {scope : Scope} {own : List (Str × Nat)} {r : List Sl → R D} {pos : Pos} (P : LcParts X ca W elt tg iter ifs scope own r) (hc : X.calm = true) (hN : X.N.Nodup) : PE X (.ListComp elt [⟨tg, iter, ifs, 0⟩] scope pos) (rdL X.K ca W r) := by
  obtain ⟨wi, gg, tt, te, hi, ok, hg, ht, he, hs, rd⟩ := P.ex
  exact PE.imp (pe_lc hc hN hi ok hg ht he hs) rd

theorem lc_parts {W : WX} {own : List Nat} {elt : E} {tg : Tg} {it : It} {c : Eo} {xe xt xi : Expr} {xc : List Expr} {as : Int} {scope : Scope} {p : Pos} (C : CxOk T g ca n L X) (h : chkE g (.lc own elt tg it c) L (.ListComp xe [⟨xt, xi, xc, as⟩] scope p) = true)
    (hI : chkI g it L tg xi = true → (isMany tg = true → ∃ es k p, xt = .Tuple es k p) → PI X xt xi (rdI X.K ca W fun env => evI (evc T n) env it) ∧ ∀ v, foldedSetIterable xi X.env v = pure v)
    (hC : chkC g c (inL L scope) xc = true → ∃ tt : TT, (∀ Y : Cx, Y.K = X.K → CxOk T g ca n (inL L scope) Y → PTs Y xc tt) ∧
      ∀ (σ : L2.St) (H : Hp) (G : Hp) (env : List Sl) (b : Bool) (N : Bool → Hp → Prop), Same G H → EnvR X.K G σ env → evC (evc T n) env c = .ok b → (∀ H' G', Ext H G H' G' → N b H') → tt σ H N)
    (hE : ∀ (Y : Cx) (V : WX), CxOk T g ca n (inL L scope) Y → L2N.Takes Y V → chkE g elt (inL L scope) xe = true → Both Y ca V xe (fun env => ev (evc T n) env elt) ∧ notStar xe = true) :
    as = 0 ∧ LcParts X ca W xe xt xi xc scope (ownN L.N own) (fun env => ev (evc T n) env (.lc own elt tg it c)) := by
  unfold chkE at h
  dsimp only at h
  simp only [Bool.and_eq_true, decide_eq_true_eq] at h
  obtain ⟨⟨⟨⟨⟨⟨⟨h0, h1⟩, h2⟩, h3⟩, h4⟩, h5⟩, h6⟩, h7⟩ := h
  refine ⟨h0, ?_⟩
  obtain ⟨i1, i2⟩ := hI h5 (fun hm => by
    cases tg with
    | one i => cases hm
    | many l => cases xt with
      | Tuple es k p => exact ⟨_, _, _, rfl⟩
      | _ => cases h4)
  obtain ⟨tt, t1, t2⟩ := hC h6
  refine ⟨_, gT X.K tg, tt, rdE X.K ca (fun _ _ _ _ => False) (fun env => ev (evc T n) env elt), i1, ?_, fun s H Ca cl fp => (C.blk (s := s) (H := H) (scope := scope) (cl := cl) (Ca := Ca) (fp := fp)).pg h4, fun s H Ca cl fp => ?_, fun s H Ca cl fp => (hE _ _ (C.blk (s := s) (H := H) (scope := scope) (cl := cl) (Ca := Ca) (fp := fp)) takesN0 h7).1.pe, i2, fun σ H Q hh => ?_⟩
  · rw [C.hN, C.hsc]; exact blkOk_by h2
  · exact t1 _ rfl (C.blk (s := s) (H := H) (scope := scope) (cl := cl) (Ca := Ca) (fp := fp))
  · rw [h1]
    refine lc_read (rt := fun env => evC (evc T n) env c) (re := fun env => ev (evc T n) env elt) ?_ t2 ?_
    · intro i hi
      have z := List.all_eq_true.mp h3 i (by cases tg <;> exact hi)
      exact List.contains_iff_mem.mp z
    · simpa only [ev] using hh

theorem CxOk.blkx (C : CxOk T g ca n L X) {s : Shared} {H : Hp} {scope : Scope} {cl : List (Str × Addr)} {Ca : Addr} {fp : List Addr} {xe : Value → Shared → Prop} : CxOk T g ca n (inL L scope) (blkX X s H scope (compEnvC scope cl Ca X.env) fp xe) :=
  ⟨C.hN, by show relabel scope X.env = relS scope L.sc; rw [← C.hsc]; rfl, rfl, (fun z => nomatch (show false = true from z)), C.nd, C.calm, C.room, ⟨C.pyl.room, C.pyl.seer, C.pyl.tree, C.pyl.top⟩, C.blt, C.cons, C.fns, fun x j h => ⟨(C.dcts x j h).ex⟩, C.clss, C.mths, C.inis, C.lfs, fun x j h => ⟨(C.dvs x j h).ex⟩⟩
/-- the parts of a comprehension whose element may raise -/
structure LcxParts (X : Cx) (ca : Str → Value) (W : WX) (elt tg iter : Expr) (scope : Scope) (own : List (Str × Nat)) (r : List Sl → R D) : Prop where
  ex : ∃ wi gg te, PI X tg iter wi ∧ BlkOk X.N X.env.scope scope own ∧ (∀ (s : Shared) (H : Hp) (C : Addr) (cl : List (Str × Addr)) (fp : List Addr) (xe : Value → Shared → Prop), PG (blkX X s H scope (compEnvC scope cl C X.env) fp xe) tg gg)
    ∧ (∀ (V : WX) (s : Shared) (H : Hp) (C : Addr) (cl : List (Str × Addr)) (fp : List Addr) (xe : Value → Shared → Prop), L2N.Takes (blkX X s H scope (compEnvC scope cl C X.env) fp xe) V → PE (blkX X s H scope (compEnvC scope cl C X.env) fp xe) elt (te V))
    ∧ (∀ x, foldedSetIterable iter X.env x = pure x) ∧ (X.stack = X.env :: X.outer ∧ X.env.frame = some X.env.locals) ∧ ∀ σ H Q, rdL X.K ca W r σ H Q → tLcX wi gg tYes te (own.map (·.2)) W σ H Q
theorem LcxParts.pe {W : WX} {elt tg iter : Expr} {scope : Scope} {own : List (Str × Nat)} {r : List Sl → R D} {pos : Pos} (P : LcxParts X ca W elt tg iter scope own r) (tk : L2N.Takes X W) (hc : X.calm = true) (hN : X.N.Nodup) : PE X (.ListComp elt [⟨tg, iter, [], 0⟩] scope pos) (rdL X.K ca W r) := by
  obtain ⟨wi, gg, te, hi, ok, hg, he, hs, ⟨h1, h2⟩, rd⟩ := P.ex
  exact PE.imp (pe_lcX hc hN tk h1 h2 hi ok hg (fun _ _ _ _ _ _ => pts_nil) he hs) rd
theorem lcx_parts {W : WX} {own : List Nat} {elt : E} {tg : Tg} {it : It} {xe xt xi : Expr} {as : Int} {scope : Scope} {p : Pos} (C : CxOk T g ca n L X) (h : chkE g (.lcx own elt tg it) L (.ListComp xe [⟨xt, xi, [], as⟩] scope p) = true)
    (hI : chkI g it L tg xi = true → (isMany tg = true → ∃ es k p, xt = .Tuple es k p) → PI X xt xi (rdI X.K ca W fun env => evI (evc T n) env it) ∧ ∀ v, foldedSetIterable xi X.env v = pure v)
    (hE : ∀ (Y : Cx) (V : WX), CxOk T g ca n (inL L scope) Y → L2N.Takes Y V → chkE g elt (inL L scope) xe = true → Both Y ca V xe (fun env => ev (evc T n) env elt) ∧ notStar xe = true) :
    as = 0 ∧ LcxParts X ca W xe xt xi scope (ownN L.N own) (fun env => ev (evc T n) env (.lcx own elt tg it)) := by
  unfold chkE at h
  dsimp only at h
  simp only [Bool.and_eq_true, decide_eq_true_eq] at h
  obtain ⟨⟨⟨⟨⟨⟨⟨hT, h0⟩, h1⟩, h2⟩, h3⟩, h4⟩, h5⟩, h7⟩ := h
  refine ⟨h0, ?_⟩
  obtain ⟨i1, i2⟩ := hI h5 (fun hm => by
    cases tg with
    | one i => cases hm
    | many l => cases xt with
      | Tuple es k p => exact ⟨_, _, _, rfl⟩
      | _ => cases h4)
  refine ⟨_, gT X.K tg, fun V => rdE X.K ca V (fun env => ev (evc T n) env elt), i1, ?_, fun s H Ca cl fp xe => (C.blkx (s := s) (H := H) (scope := scope) (cl := cl) (Ca := Ca) (fp := fp) (xe := xe)).pg h4, fun V s H Ca cl fp xe tk => (hE _ _ (C.blkx (s := s) (H := H) (scope := scope) (cl := cl) (Ca := Ca) (fp := fp) (xe := xe)) tk h7).1.pe, i2, C.htop hT, fun σ H Q hh => ?_⟩
  · rw [C.hN, C.hsc]; exact blkOk_by h2
  · rw [h1]
    refine lcx_read (re := fun env => ev (evc T n) env elt) ?_ ?_
    · intro i hi
      have z := List.all_eq_true.mp h3 i (by cases tg <;> exact hi)
      exact List.contains_iff_mem.mp z
    · simpa only [ev] using hh

mutual
theorem sndE : ∀ (e : E) {X : Cx} {L : Lx} {W : WX} {x : Expr}, CxOk T g ca n L X → L2N.Takes X W → chkE g e L x = true → Both X ca W x (fun env => ev (evc T n) env e) ∧ notStar x = true
  | .k d, X, L, W, x, C, tk, h => by
    unfold chkE at h
    simp only [ev]
    cases d with
    | none => cases x with
      | Constant c k p => cases c with
        | none => exact ⟨both_val (e_const pe_non fun _ => .non) fun _ => rfl, rfl⟩
        | _ => cases h
      | _ => cases h
    | bool b => cases x with
      | Constant c k p => cases c with
        | bool c =>
          have e : b = c := of_decide_eq_true h
          subst e
          exact ⟨both_val (e_const pe_bl fun _ => .bl _) fun _ => rfl, rfl⟩
        | _ => cases h
      | _ => cases h
    | int b => cases x with
      | Constant c k p => cases c with
        | int c =>
          have e : b = c := of_decide_eq_true h
          subst e
          exact ⟨both_val (e_const pe_int fun _ => .int _) fun _ => rfl, rfl⟩
        | _ => cases h
      | _ => cases h
    | str b => cases x with
      | Constant c k p => cases c with
        | str c =>
          have e : b = c := of_decide_eq_true h
          subst e
          exact ⟨both_val (e_const pe_str fun _ => .str _) fun _ => rfl, rfl⟩
        | _ => cases h
      | _ => cases h
    | _ => cases x <;> cases h
  | .v i, X, L, W, x, C, tk, h => by
    unfold chkE at h
    simp only [ev]
    cases x with
    | Name x p =>
      dsimp only at h
      rw [Bool.and_eq_true, decide_eq_true_eq] at h
      have hv := h.2
      unfold visB at hv
      rw [Bool.and_eq_true] at hv
      have dd := dbg_of hv.2
      exact ⟨both_val (e_var (pe_var (by rw [C.hN]; exact h.1) (C.vis h.2) dd.1 dd.2)) fun _ => rfl, rfl⟩
    | _ => cases h
  | .g j, X, L, W, x, C, tk, h => by
    unfold chkE at h
    simp only [ev]
    cases x with
    | Name x p =>
      dsimp only at h
      rw [Bool.and_eq_true, List.contains_iff_mem] at h
      obtain ⟨u, v, h1, h2, h3⟩ := C.cons x j h.2
      exact ⟨both_val (e_const (pe_glob (C.gl h.1) h1 h2 (glB_dbg h.1)) h3) fun _ => rfl, rfl⟩
    | _ => cases h
  | .tup es, X, L, W, x, C, tk, h => by
    unfold chkE at h
    simp only [ev]
    cases x with
    | Tuple xs k p =>
      dsimp only at h
      rw [Bool.and_eq_true, decide_eq_true_eq] at h
      obtain ⟨h1, h2⟩ := sndEs es C tk h.1
      exact ⟨both_val (e_tup h1 h.2 fun env ds q => evs_len h.1 q) fun _ => rfl, rfl⟩
    | _ => cases h
  | .lst es, X, L, W, x, C, tk, h => by
    unfold chkE at h
    simp only [ev]
    cases x with
    | List xs p =>
      dsimp only at h
      rw [Bool.and_eq_true, decide_eq_true_eq] at h
      obtain ⟨h1, h2⟩ := sndEs es C tk h.1
      refine ⟨both_val (e_ofL (e_lst h1 h.2 fun env ds q => evs_len h.1 q) fun env d q => ?_) fun _ => rfl, rfl⟩
      cases e : evs (evc T n) env es with
      | ok l => rw [e] at q; cases q; exact ⟨l, rfl⟩
      | _ => rw [e] at q; cases q
    | _ => cases h
  | .bin o a b, X, L, W, x, C, tk, h => by
    unfold chkE at h
    simp only [ev]
    cases x with
    | BinOp xa op xb p =>
      dsimp only at h
      rw [Bool.and_eq_true, Bool.and_eq_true, decide_eq_true_eq] at h
      obtain ⟨h0, h1, h2⟩ := h
      subst h0
      exact ⟨both_val (e_bin C.pyl (sndE a C tk h1).1.pe (sndE b C tk h2).1.pe) fun _ => rfl, rfl⟩
    | _ => cases h
  | .neg a, X, L, W, x, C, tk, h => by
    unfold chkE at h
    simp only [ev]
    cases x with
    | UnaryOp op xa p => cases op with
      | USub => exact ⟨both_val (e_neg (sndE a C tk h).1.pe) fun _ => rfl, rfl⟩
      | _ => cases h
    | _ => cases h
  | .not a, X, L, W, x, C, tk, h => by
    unfold chkE at h
    simp only [ev]
    cases x with
    | UnaryOp op xa p => cases op with
      | Not => exact ⟨e_not (sndE a C tk h).1, rfl⟩
      | _ => cases h
    | _ => cases h
  | .and es, X, L, W, x, C, tk, h => by
    unfold chkE at h
    simp only [ev]
    cases x with
    | BoolOp op xs p => cases op with
      | And =>
        dsimp only at h
        rw [Bool.and_eq_true] at h
        exact ⟨(sndAnd es C tk h.1 h.2).both, rfl⟩
      | _ => cases h
    | _ => cases h
  | .or es, X, L, W, x, C, tk, h => by
    unfold chkE at h
    simp only [ev]
    cases x with
    | BoolOp op xs p => cases op with
      | Or =>
        dsimp only at h
        rw [Bool.and_eq_true] at h
        exact ⟨(sndOr es C tk h.1 h.2).both, rfl⟩
      | _ => cases h
    | _ => cases h
  | .cmp o a b, X, L, W, x, C, tk, h => by
    unfold chkE at h
    simp only [ev]
    cases x with
    | Compare xa ops xs p =>
      split at h
      · rename_i heq
        cases heq
        rw [Bool.and_eq_true, Bool.and_eq_true, Bool.and_eq_true, decide_eq_true_eq] at h
        obtain ⟨⟨h0, hs⟩, h1, h2⟩ := h
        subst h0
        exact ⟨e_cmp C.un (marks_of hs) (sndE a C tk h1).1.pe (sndE b C tk h2).1.pe, rfl⟩
      · cases h
    | _ => cases h
  | .cmp2 o o2 a b c, X, L, W, x, C, tk, h => by
    unfold chkE at h
    simp only [ev]
    cases x with
    | Compare xa ops xs p =>
      split at h
      · rename_i heq
        cases heq
        simp only [Bool.and_eq_true, Bool.not_eq_true', decide_eq_true_eq, decide_eq_false_iff_not] at h
        obtain ⟨⟨⟨⟨h0, h00⟩, h01⟩, h02⟩, ⟨h1, h2⟩, h3⟩ := h
        subst h0 h00
        exact ⟨e_cmp2 C.un h01 h02 (sndE a C tk h1).1.pe (sndE b C tk h2).1.pe (sndE c C tk h3).1.pe, rfl⟩
      · cases h
    | _ => cases h
  | .ife c a b, X, L, W, x, C, tk, h => by
    unfold chkE at h
    simp only [ev]
    cases x with
    | IfExp xc xa xb p =>
      dsimp only at h
      rw [Bool.and_eq_true, Bool.and_eq_true] at h
      obtain ⟨⟨h1, h2⟩, h3⟩ := h
      have a1 := (sndE c C tk h1).1
      have a2 := (sndE a C tk h2).1
      have a3 := (sndE b C tk h3).1
      exact ⟨⟨e_ife a1 a2 a3, t_ife a1 a2 a3⟩, rfl⟩
    | _ => cases h
  | .ix a i, X, L, W, x, C, tk, h => by
    unfold chkE at h
    simp only [ev]
    cases x with
    | Subscript xa xi p =>
      dsimp only at h
      rw [Bool.and_eq_true, Bool.and_eq_true] at h
      obtain ⟨⟨h1, h2⟩, h3⟩ := h
      exact ⟨both_val (e_ix (plainIx_of h1) (sndE a C tk h2).1.pe (sndE i C tk h3).1.pe) fun _ => rfl, rfl⟩
    | _ => cases h
  | .sl a lo hi, X, L, W, x, C, tk, h => by
    unfold chkE at h
    simp only [ev]
    cases x with
    | Subscript xa xi p =>
      split at h
      · rename_i heq
        cases heq
        rw [Bool.and_eq_true, Bool.and_eq_true] at h
        obtain ⟨⟨h1, h2⟩, h3⟩ := h
        exact ⟨both_val (e_sl (sndE a C tk h1).1.pe (sndO lo C tk h2) (sndO hi C tk h3)) fun _ => rfl, rfl⟩
      · cases h
    | _ => cases h
  | .call f es, X, L, W, x, C, tk, h => by
    unfold chkE at h
    simp only [ev]
    split at h
    · rw [Bool.and_eq_true, Bool.and_eq_true, List.contains_iff_mem] at h
      obtain ⟨⟨h1, h2⟩, h3⟩ := h
      obtain ⟨f0, fd, ps, m1, m2, m3, m4⟩ := C.fns _ _ h2
      obtain ⟨a1, a2⟩ := sndEs es C tk h3
      exact ⟨both_val (e_def m4 (C.room.mono (by omega)) (C.gl h1) m1 m2 m3 tk (glB_dbg h1) a2 a1) fun _ => rfl, rfl⟩
    · cases h
  | .bf f es, X, L, W, x, C, tk, h => by
    unfold chkE at h
    simp only [ev]
    split at h
    · rw [Bool.and_eq_true, Bool.and_eq_true, decide_eq_true_eq] at h
      obtain ⟨⟨h1, h2⟩, h3⟩ := h
      subst h1
      obtain ⟨a1, a2⟩ := sndEs es C tk h3
      refine ⟨both_val (e_bf C.calm (C.gl h2) (C.blt _ ?_) a2 a1) fun _ => rfl, rfl⟩
      cases f <;> simp [blts, bfName]
    · cases h
  | .isi a t, X, L, W, x, C, tk, h => by
    unfold chkE at h
    simp only [ev]
    split at h
    · simp only [Bool.and_eq_true, decide_eq_true_eq] at h
      obtain ⟨⟨⟨⟨h1, h2⟩, h3⟩, h4⟩, h5⟩ := h
      subst h1 h3
      obtain ⟨a1, a2⟩ := sndE a C tk h5
      refine ⟨both_val (e_isi (C.gl h2) (C.blt _ (by simp [blts])) (C.gl h4) (C.blt _ ?_) a2 a1.pe) fun _ => rfl, rfl⟩
      cases t <;> simp [blts, tyName]
    · cases h
  | .rev a, X, L, W, x, C, tk, h => by
    unfold chkE at h
    simp only [ev]
    split at h
    · rw [Bool.and_eq_true, decide_eq_true_eq] at h
      obtain ⟨h1, h2⟩ := h
      subst h1
      exact ⟨both_val (e_rev (sndE a C tk h2).1.pe) fun _ => rfl, rfl⟩
    · cases h
  | .mx0 a, X, L, W, x, C, tk, h => by
    unfold chkE at h
    simp only [ev]
    split at h
    · simp only [Bool.and_eq_true, decide_eq_true_eq] at h
      obtain ⟨⟨⟨⟨h1, h2⟩, h3⟩, h4⟩, h5⟩ := h
      subst h1
      subst h2
      subst h3
      obtain ⟨a1, a2⟩ := sndE a C tk h5
      exact ⟨both_val (e_mx0 C.calm (by have := C.un; omega) (C.gl h4) (C.blt _ (by decide +kernel)) a2 a1.pe) fun _ => rfl, rfl⟩
    · cases h
  | .ins a j, X, L, W, x, C, tk, h => by
    unfold chkE at h
    simp only [ev]
    split at h
    · simp only [Bool.and_eq_true, decide_eq_true_eq] at h
      obtain ⟨⟨⟨h1, h2⟩, h3⟩, h4⟩ := h
      subst h1
      exact ⟨e_ins (C.dcts _ _ (List.contains_iff_mem.mp h3)) (C.gl h2) (glB_dbg h2) (sndE a C tk h4).1.pe, rfl⟩
    · cases h
  | .lens a, X, L, W, x, C, tk, h => by
    unfold chkE at h
    simp only [ev]
    split at h
    · simp only [Bool.and_eq_true, decide_eq_true_eq] at h
      obtain ⟨⟨⟨⟨h1, h2⟩, h3⟩, h4⟩, h5⟩ := h
      subst h1 h2
      obtain ⟨a1, a2⟩ := sndE a C tk h5
      exact ⟨both_val (e_lens C.calm C.un (C.gl h3) (C.blt _ (by simp [blts])) (C.gl h4) (C.blt _ (by simp [blts])) a2 a1.pe) fun _ => rfl, rfl⟩
    · cases h
  | .lc own elt tg it c, X, L, W, x, C, tk, h => by
    unfold chkE at h
    split at h
    · rename_i xe xt xi xc as scope p
      obtain ⟨h0, P⟩ := lc_parts (W := W) C (show chkE g (.lc own elt tg it c) L (.ListComp xe [⟨xt, xi, xc, as⟩] scope p) = true by unfold chkE; exact h) (fun q m => sndI it C tk q m) (fun q => sndC c X.K q) (fun Y V D t q => sndE elt D t q)
      subst h0
      refine ⟨both_val (e_ofL (P.pe C.calm C.nd) fun env d q => ?_) fun _ => rfl, rfl⟩
      simp only [ev] at q
      cases e : evI (evc T n) env it with
      | ok l =>
        rw [e] at q
        dsimp only [R.bind] at q
        split at q
        · cases q; exact ⟨_, rfl⟩
        · cases q
        · cases q
      | _ => rw [e] at q; cases q
    · cases h
  | .orv a b, X, L, W, x, C, tk, h => by
    unfold chkE at h
    simp only [ev]
    split at h
    · rename_i xa xb p
      rw [Bool.and_eq_true, Bool.and_eq_true] at h
      obtain ⟨⟨h0, h1⟩, h2⟩ := h
      exact ⟨⟨e_orv (sndE a C tk h1).1.pe (sndE b C tk h2).1.pe, t_orv h0 (sndE a C tk h1).1.pe (sndE b C tk h2).1⟩, rfl⟩
    · cases h
  | .cnt i b, X, L, W, x, C, tk, h => by
    unfold chkE at h
    simp only [ev]
    split at h
    · simp only [Bool.and_eq_true, decide_eq_true_eq] at h
      obtain ⟨⟨⟨⟨h1, h2⟩, h3⟩, h4⟩, h5⟩ := h
      subst h1
      have hv := h4
      unfold visB at hv
      rw [Bool.and_eq_true] at hv
      have dd := dbg_of hv.2
      obtain ⟨a1, a2⟩ := sndE b C tk h5
      exact ⟨both_val (e_cnt C.un (pe_var (by rw [C.hN]; exact h3) (C.vis h4) dd.1 dd.2) h2 a2 a1.pe (by rw [star_cons a2]; rfl)) fun _ => rfl, rfl⟩
    · cases h
  | .att i k j, X, L, W, x, C, tk, h => by
    unfold chkE at h
    simp only [ev]
    split at h
    · rename_i y py f ap
      simp only [Bool.and_eq_true, decide_eq_true_eq, Bool.not_eq_true'] at h
      obtain ⟨⟨⟨⟨h1, h2⟩, h3⟩, h4⟩, h5⟩ := h
      have hv := h2
      unfold visB at hv
      rw [Bool.and_eq_true] at hv
      have dd := dbg_of hv.2
      have Z := C.clss k (List.contains_iff_mem.mp h3)
      exact ⟨both_val (e_att h5 Z.cls (Z.noat f (List.mem_of_getElem? h4)) h4 (pe_var (by rw [C.hN]; exact h1) (C.vis h2) dd.1 dd.2)) fun _ => rfl, rfl⟩
    · cases h
  | .tx1 o a, X, L, W, x, C, tk, h => by
    unfold chkE at h
    simp only [ev]
    split at h
    · simp only [Bool.and_eq_true, decide_eq_true_eq] at h
      obtain ⟨⟨⟨h0, h1⟩, h2⟩, h3⟩ := h
      subst h0 h1
      obtain ⟨a1, a2⟩ := sndE a C tk h3
      exact ⟨both_val (e_str (C.gl h2) (C.blt _ (by simp [blts])) a2 a1.pe) fun _ => rfl, rfl⟩
    · simp only [Bool.and_eq_true, decide_eq_true_eq] at h
      obtain ⟨⟨⟨⟨h0, h1⟩, h2⟩, h3⟩, h4⟩ := h
      subst h0 h1
      exact ⟨both_val (e_isdig h2 h3 (sndE a C tk h4).1.pe) fun _ => rfl, rfl⟩
    · cases h
  | .tx2 o a b, X, L, W, x, C, tk, h => by
    unfold chkE at h
    simp only [ev]
    split at h
    · simp only [Bool.and_eq_true, decide_eq_true_eq] at h
      obtain ⟨⟨⟨⟨⟨h0, h1⟩, h2⟩, h3⟩, h4⟩, h5⟩ := h
      subst h1
      obtain ⟨b1, b2⟩ := sndE b C tk h5
      exact ⟨both_val (e_tx2 h0 h2 h3 b2 (sndE a C tk h4).1.pe b1.pe) fun _ => rfl, rfl⟩
    · cases h
  | .ind a j, X, L, W, x, C, tk, h => by
    unfold chkE at h
    simp only [ev]
    split at h
    · simp only [Bool.and_eq_true, decide_eq_true_eq] at h
      obtain ⟨⟨⟨h1, h2⟩, h3⟩, h4⟩ := h
      subst h1
      exact ⟨e_ind (C.dvs _ _ (List.contains_iff_mem.mp h3)) (C.gl h2) (glB_dbg h2) (sndE a C tk h4).1.pe, rfl⟩
    · cases h
  | .dg j a, X, L, W, x, C, tk, h => by
    unfold chkE at h
    simp only [ev]
    split at h
    · simp only [Bool.and_eq_true] at h
      obtain ⟨⟨⟨h1, h2⟩, h3⟩, h4⟩ := h
      exact ⟨both_val (e_dg (C.dvs _ _ (List.contains_iff_mem.mp h3)) (C.gl h2) (glB_dbg h2) (plainIx_of h1) (sndE a C tk h4).1.pe) fun _ => rfl, rfl⟩
    · cases h
  | .din i k j a, X, L, W, x, C, tk, h => by
    unfold chkE at h
    simp only [ev]
    split at h
    · rename_i xa op y py f ap pos
      simp only [Bool.and_eq_true, decide_eq_true_eq] at h
      obtain ⟨⟨⟨⟨⟨h0, h1⟩, h2⟩, h3⟩, h4⟩, h5⟩ := h
      subst h0
      have hv := h2
      unfold visB at hv
      rw [Bool.and_eq_true] at hv
      have dd := dbg_of hv.2
      have Z := C.clss k (List.contains_iff_mem.mp h3)
      exact ⟨e_din (by have := C.un; omega) Z.cls (Z.noat f (List.mem_of_getElem? h4)) h4 (pe_var (by rw [C.hN]; exact h1) (C.vis h2) dd.1 dd.2) (sndE a C tk h5).1.pe, rfl⟩
    · cases h
  | .dat i k j a, X, L, W, x, C, tk, h => by
    unfold chkE at h
    simp only [ev]
    split at h
    · rename_i y py f ap xa pos
      simp only [Bool.and_eq_true, decide_eq_true_eq] at h
      obtain ⟨⟨⟨⟨⟨h0, h1⟩, h2⟩, h3⟩, h4⟩, h5⟩ := h
      have hv := h2
      unfold visB at hv
      rw [Bool.and_eq_true] at hv
      have dd := dbg_of hv.2
      have Z := C.clss k (List.contains_iff_mem.mp h3)
      exact ⟨both_val (e_dat (by have := C.un; omega) Z.cls (Z.noat f (List.mem_of_getElem? h4)) h4 (pe_var (by rw [C.hN]; exact h1) (C.vis h2) dd.1 dd.2) (sndE a C tk h5).1.pe (plainIx_of h0)) fun _ => rfl, rfl⟩
    · cases h
  | .dlit ks es a, X, L, W, x, C, tk, h => by
    unfold chkE at h
    simp only [ev]
    split at h
    · simp only [Bool.and_eq_true, decide_eq_true_eq, Bool.not_eq_true'] at h
      obtain ⟨⟨⟨⟨⟨⟨⟨h1, h2⟩, h3⟩, h4⟩, h5⟩, h6⟩, h7⟩, h8⟩ := h
      exact ⟨both_val (e_dlit (by have := C.un; omega) (sndDs es ks C tk h7 h2 h6) (fun e => by rw [e] at h3; cases h3) h4 h5 (sndE a C tk h8).1.pe (plainIx_of h1)) fun _ => rfl, rfl⟩
    · cases h
  | .cln f a, X, L, W, x, C, tk, h => by
    unfold chkE at h
    simp only [ev]
    split at h
    · rw [Bool.and_eq_true, Bool.and_eq_true, List.contains_iff_mem] at h
      obtain ⟨⟨h1, h2⟩, h3⟩ := h
      obtain ⟨f0, fd, ps, m1, m2, m3, m4⟩ := C.lfs _ _ h2
      obtain ⟨a1, a2⟩ := sndE a C tk h3
      exact ⟨both_val (e_cln m4 (C.room.mono (by omega)) (C.gl h1) m1 m2 m3 tk (glB_dbg h1) a2 a1.pe) fun _ => rfl, rfl⟩
    · cases h
  | .lcx own elt tg it, X, L, W, x, C, tk, h => by
    unfold chkE at h
    split at h
    · rename_i xe xt xi as scope p
      obtain ⟨h0, P⟩ := lcx_parts (W := W) C (show chkE g (.lcx own elt tg it) L (.ListComp xe [⟨xt, xi, [], as⟩] scope p) = true by unfold chkE; exact h) (fun q m => sndI it C tk q m) (fun Y V D t q => sndE elt D t q)
      subst h0
      refine ⟨both_val (e_ofL (P.pe tk C.calm C.nd) fun env d q => ?_) fun _ => rfl, rfl⟩
      simp only [ev] at q
      cases e : evI (evc T n) env it with
      | ok l =>
        rw [e] at q
        dsimp only [R.bind] at q
        split at q
        · cases q; exact ⟨_, rfl⟩
        · cases q
        · cases q
      | _ => rw [e] at q; cases q
    · cases h
theorem sndEs : ∀ (es : Es) {X : Cx} {L : Lx} {W : WX} {xs : List Expr}, CxOk T g ca n L X → L2N.Takes X W → chkEs g es L xs = true → PA X xs (rdA X.K ca W fun env => evs (evc T n) env es) ∧ xs.all notStar = true
  | .nil, X, L, W, xs, C, tk, h => by
    unfold chkEs at h
    simp only [evs]
    cases xs with
    | nil => exact ⟨a_nil, rfl⟩
    | cons _ _ => cases h
  | .cons e es, X, L, W, xs, C, tk, h => by
    unfold chkEs at h
    simp only [evs]
    cases xs with
    | nil => cases h
    | cons x xs =>
      dsimp only at h
      rw [Bool.and_eq_true] at h
      obtain ⟨a1, a2⟩ := sndE e C tk h.1
      obtain ⟨b1, b2⟩ := sndEs es C tk h.2
      exact ⟨a_cons a2 a1.pe b1, by rw [List.all_cons, a2, b2]; rfl⟩
theorem sndDs : ∀ (es : Es) (ks : List Str) {X : Cx} {L : Lx} {W : WX} {keys : List (Option Expr)} {xs : List Expr} {pos : Pos}, CxOk T g ca n L X → L2N.Takes X W → chkEs g es L xs = true → keysB ks keys = true → ks.length = xs.length → Disp X ca W pos keys xs ks (fun env => evs (evc T n) env es)
  | .nil, ks, X, L, W, keys, xs, pos, C, tk, h, hk, hl => by
    unfold chkEs at h
    simp only [evs]
    cases xs with
    | cons _ _ => cases h
    | nil =>
      cases ks with
      | cons _ _ => cases hl
      | nil =>
        cases keys with
        | cons _ _ => cases hk
        | nil => exact disp_nil
  | .cons e es, ks, X, L, W, keys, xs, pos, C, tk, h, hk, hl => by
    unfold chkEs at h
    simp only [evs]
    cases xs with
    | nil => cases h
    | cons x xs =>
      dsimp only at h
      rw [Bool.and_eq_true] at h
      cases ks with
      | nil => cases hl
      | cons z ks =>
        cases keys with
        | nil => cases hk
        | cons k r =>
          cases k with
          | none => cases hk
          | some ex =>
            cases ex with
            | Constant c kk p =>
              cases c with
              | str y =>
                have hk : (decide (y = z) && keysB ks r) = true := hk
                rw [Bool.and_eq_true, decide_eq_true_eq] at hk
                obtain ⟨hk1, hk2⟩ := hk
                subst hk1
                exact disp_cons (sndE e C tk h.1).1.pe (sndDs es ks C tk h.2 hk2 (by simpa using hl))
              | _ => cases hk
            | _ => cases hk
theorem sndAnd : ∀ (es : Es) {X : Cx} {L : Lx} {W : WX} {xs : List Expr} {pos : Pos}, CxOk T g ca n L X → L2N.Takes X W → chkEs g es L xs = true → (!xs.isEmpty) = true → BothW X ca W .And xs pos (fun env => evAnd (evc T n) env es)
  | .nil, X, L, W, xs, pos, C, tk, h, h2 => by
    unfold chkEs at h
    rw [h] at h2; cases h2
  | .cons e .nil, X, L, W, xs, pos, C, tk, h, h2 => by
    unfold chkEs at h
    simp only [evAnd]
    cases xs with
    | nil => cases h
    | cons x xs =>
      dsimp only at h
      rw [Bool.and_eq_true] at h
      have z := h.2
      unfold chkEs at z
      cases xs with
      | nil => exact w_one1 (sndE e C tk h.1).1
      | cons _ _ => cases z
  | .cons e (.cons e2 es), X, L, W, xs, pos, C, tk, h, h2 => by
    unfold chkEs at h
    simp only [evAnd]
    cases xs with
    | nil => cases h
    | cons x xs =>
      dsimp only at h
      rw [Bool.and_eq_true] at h
      cases xs with
      | nil => have z := h.2; unfold chkEs at z; cases z
      | cons y ys => exact w_and (sndE e C tk h.1).1 (sndAnd (.cons e2 es) C tk h.2 rfl)
theorem sndOr : ∀ (es : Es) {X : Cx} {L : Lx} {W : WX} {xs : List Expr} {pos : Pos}, CxOk T g ca n L X → L2N.Takes X W → chkEs g es L xs = true → (!xs.isEmpty) = true → BothW X ca W .Or xs pos (fun env => evOr (evc T n) env es)
  | .nil, X, L, W, xs, pos, C, tk, h, h2 => by
    unfold chkEs at h
    rw [h] at h2; cases h2
  | .cons e .nil, X, L, W, xs, pos, C, tk, h, h2 => by
    unfold chkEs at h
    simp only [evOr]
    cases xs with
    | nil => cases h
    | cons x xs =>
      dsimp only at h
      rw [Bool.and_eq_true] at h
      have z := h.2
      unfold chkEs at z
      cases xs with
      | nil => exact w_one2 (sndE e C tk h.1).1
      | cons _ _ => cases z
  | .cons e (.cons e2 es), X, L, W, xs, pos, C, tk, h, h2 => by
    unfold chkEs at h
    simp only [evOr]
    cases xs with
    | nil => cases h
    | cons x xs =>
      dsimp only at h
      rw [Bool.and_eq_true] at h
      cases xs with
      | nil => have z := h.2; unfold chkEs at z; cases z
      | cons y ys => exact w_or (sndE e C tk h.1).1 (sndOr (.cons e2 es) C tk h.2 rfl)
theorem sndO : ∀ (o : Eo) {X : Cx} {L : Lx} {W : WX} {x : Option Expr}, CxOk T g ca n L X → L2N.Takes X W → chkO g o L x = true → PO X x (rdO X.K ca W fun env => evO (evc T n) env o)
  | .no, X, L, W, x, C, tk, h => by
    unfold chkO at h
    simp only [evO]
    cases x with
    | none => exact o_none
    | some _ => cases h
  | .yes e, X, L, W, x, C, tk, h => by
    unfold chkO at h
    simp only [evO]
    cases x with
    | none => cases h
    | some x => exact o_some (sndE e C tk h).1.pe
theorem sndC : ∀ (o : Eo) (K : PySem.W.Frag) {L : Lx} {xs : List Expr}, chkC g o L xs = true → ∃ tt : TT, (∀ X : Cx, X.K = K → CxOk T g ca n L X → PTs X xs tt) ∧
    ∀ (σ : L2.St) (H : Hp) (G : Hp) (env : List Sl) (b : Bool) (N : Bool → Hp → Prop), Same G H → EnvR K G σ env → evC (evc T n) env o = .ok b → (∀ H' G', Ext H G H' G' → N b H') → tt σ H N
  | .no, K, L, xs, h => by
    unfold chkC at h
    cases xs with
    | nil => exact ⟨_, fun X _ C => pts_nil, fun σ H G env b N s he q hn => by unfold evC at q; cases q; exact hn H G (Ext.refl s)⟩
    | cons _ _ => cases h
  | .yes e, K, L, xs, h => by
    unfold chkC at h
    cases xs with
    | nil => cases h
    | cons x xs => cases xs with
      | cons _ _ => cases h
      | nil =>
        refine ⟨rdT K ca (fun _ _ _ _ => False) (fun env => ev (evc T n) env e), fun X hK C => ?_, fun σ H G env b N s he q hn => ⟨env, G, s, he, ?_⟩⟩
        · subst hK
          exact pts_one (sndE e C takesN0 h).1.pt
        · unfold evC at q
          cases e1 : ev (evc T n) env e with
          | ok d =>
            rw [e1] at q
            cases d with
            | bool k =>
              cases q
              show RsT _ _ _ _ (ev (evc T n) env e)
              rw [e1]
              exact fun H' G' x => hn H' G' x
            | _ => cases q
          | _ => rw [e1] at q; cases q
theorem sndI : ∀ (it : It) {X : Cx} {L : Lx} {W : WX} {t : Tg} {x xt : Expr}, CxOk T g ca n L X → L2N.Takes X W → chkI g it L t x = true → (isMany t = true → ∃ es k p, xt = .Tuple es k p) → PI X xt x (rdI X.K ca W fun env => evI (evc T n) env it) ∧ ∀ v, foldedSetIterable x X.env v = pure v
  | .seq e, X, L, W, t, x, xt, C, tk, h, hm => by
    unfold chkI at h
    simp only [evI]
    rw [Bool.and_eq_true] at h
    exact ⟨it_seq (sndE e C tk h.2).1.pe, folded_of h.1⟩
  | .rng1 e, X, L, W, t, x, xt, C, tk, h, hm => by
    unfold chkI at h
    simp only [evI]
    split at h
    · simp only [Bool.and_eq_true, decide_eq_true_eq] at h
      obtain ⟨⟨h1, h2⟩, h3⟩ := h
      subst h1
      obtain ⟨a1, a2⟩ := sndE e C tk h3
      exact ⟨it_rng1 (C.gl h2) (C.blt _ (by simp [blts])) a2 a1.pe, fun _ => rfl⟩
    · cases h
  | .rng3 a b c, X, L, W, t, x, xt, C, tk, h, hm => by
    unfold chkI at h
    simp only [evI]
    split at h
    · simp only [Bool.and_eq_true, decide_eq_true_eq] at h
      obtain ⟨⟨⟨⟨h1, h2⟩, h3⟩, h4⟩, h5⟩ := h
      subst h1
      obtain ⟨a1, a2⟩ := sndE a C tk h3
      obtain ⟨b1, b2⟩ := sndE b C tk h4
      obtain ⟨c1, c2⟩ := sndE c C tk h5
      exact ⟨it_rng3 (C.gl h2) (C.blt _ (by simp [blts])) a2 b2 c2 a1.pe b1.pe c1.pe, fun _ => rfl⟩
    · cases h
  | .rng2 a b, X, L, W, t, x, xt, C, tk, h, hm => by
    unfold chkI at h
    simp only [evI]
    split at h
    · simp only [Bool.and_eq_true, decide_eq_true_eq] at h
      obtain ⟨⟨⟨h1, h2⟩, h3⟩, h4⟩ := h
      subst h1
      obtain ⟨a1, a2⟩ := sndE a C tk h3
      obtain ⟨b1, b2⟩ := sndE b C tk h4
      exact ⟨it_rng2 (C.gl h2) (C.blt _ (by simp [blts])) a2 b2 a1.pe b1.pe, fun _ => rfl⟩
    · cases h
  | .enum e, X, L, W, t, x, xt, C, tk, h, hm => by
    unfold chkI at h
    simp only [evI]
    split at h
    · simp only [Bool.and_eq_true, decide_eq_true_eq] at h
      obtain ⟨⟨⟨h0, h1⟩, h2⟩, h3⟩ := h
      subst h1
      obtain ⟨es, k, p, rfl⟩ := hm h0
      obtain ⟨a1, a2⟩ := sndE e C tk h3
      exact ⟨it_enum (C.gl h2) (C.blt _ (by simp [blts])) a2 a1.pe, fun _ => rfl⟩
    · cases h
  | .zip a b, X, L, W, t, x, xt, C, tk, h, hm => by
    unfold chkI at h
    simp only [evI]
    split at h
    · simp only [Bool.and_eq_true, decide_eq_true_eq] at h
      obtain ⟨⟨⟨⟨h0, h1⟩, h2⟩, h3⟩, h4⟩ := h
      subst h1
      obtain ⟨es, k, p, rfl⟩ := hm h0
      obtain ⟨a1, a2⟩ := sndE a C tk h3
      obtain ⟨b1, b2⟩ := sndE b C tk h4
      exact ⟨it_zip (C.gl h2) (C.blt _ (by simp [blts])) a2 b2 a1.pe b1.pe, fun _ => rfl⟩
    · cases h
end
theorem sndLcx {W : WX} {own : List Nat} {elt : E} {tg : Tg} {it : It} {xe xt xi : Expr} {as : Int} {scope : Scope} {p : Pos} (C : CxOk T g ca n L X) (tk : L2N.Takes X W) (h : chkE g (.lcx own elt tg it) L (.ListComp xe [⟨xt, xi, [], as⟩] scope p) = true) :
    as = 0 ∧ LcxParts X ca W xe xt xi scope (ownN L.N own) (fun env => ev (evc T n) env (.lcx own elt tg it)) :=
  lcx_parts C h (fun q m => sndI it C tk q m) (fun Y V D t q => sndE elt D t q)
theorem sndLc {W : WX} {own : List Nat} {elt : E} {tg : Tg} {it : It} {c : Eo} {xe xt xi : Expr} {xc : List Expr} {as : Int} {scope : Scope} {p : Pos} (C : CxOk T g ca n L X) (tk : L2N.Takes X W) (h : chkE g (.lc own elt tg it c) L (.ListComp xe [⟨xt, xi, xc, as⟩] scope p) = true) :
    as = 0 ∧ LcParts X ca W xe xt xi xc scope (ownN L.N own) (fun env => ev (evc T n) env (.lc own elt tg it c)) :=
  lc_parts C h (fun q m => sndI it C tk q m) (fun q => sndC c X.K q) (fun Y V D t q => sndE elt D t q)
end
end Cw

set_option Elab.async false
set_option linter.all false
set_option maxRecDepth 100000
set_option maxHeartbeats 4000000
namespace Cw
open PySem PySem.Spec PyProof.Rows L2

/-! ### the state of a body: He, Ge the heaps at its entry -/
/-- what is lent to a def: an object, a list -/
inductive Bor where
  | ins (p dx : Addr) (k : Nat)
  | lst (p : Addr)
theorem ow_set {env : List Sl} {i j : Nat} {z : Sl} {ds : List D} (hz : z ≠ .ow ds) (q : (env.set i z)[j]? = some (.ow ds)) : i ≠ j ∧ env[j]? = some (.ow ds) := by
  by_cases e : i = j
  · subst e
    by_cases hi : i < env.length
    · rw [List.getElem?_set_self hi] at q
      exact (hz (Option.some.inj q)).elim
    · rw [List.getElem?_eq_none (by rw [List.length_set]; omega)] at q
      cases q
  · rw [List.getElem?_set_ne e] at q
    exact ⟨e, q⟩
theorem ln_set {env : List Sl} {i j : Nat} {z : Sl} {ds : List D} (hz : z ≠ .ln ds) (q : (env.set i z)[j]? = some (.ln ds)) : i ≠ j ∧ env[j]? = some (.ln ds) := by
  by_cases e : i = j
  · subst e
    by_cases hi : i < env.length
    · rw [List.getElem?_set_self hi] at q
      exact (hz (Option.some.inj q)).elim
    · rw [List.getElem?_eq_none (by rw [List.length_set]; omega)] at q
      cases q
  · rw [List.getElem?_set_ne e] at q
    exact ⟨e, q⟩
structure RSG (K : PySem.W.Frag) (S : Option Bor) (He Ge G : Hp) (σ : L2.St) (H : Hp) (env : List Sl) : Prop where
  x : Ext He Ge H G
  e : EnvL K G σ env
  o : ∀ (i : Nat) (ds : List D), env[i]? = some (.ow ds) → ∃ (p : Addr) (vs : List V), σ[i]? = some (some (.ref p)) ∧ H p = some (.lst vs) ∧ DpAll K G vs ds ∧ He p = none ∧ G p = none ∧ ∀ (j : Nat) (es : List D) (q : Addr), j ≠ i → env[j]? = some (.ow es) → σ[j]? = some (some (.ref q)) → q ≠ p
  b : ∀ (i : Nat) (b : Bool) (k : Nat) (fs : List D), env[i]? = some (.ob b k fs) → ∃ (p dx : Addr) (vs : List V), σ[i]? = some (some (.ref p)) ∧ H p = some (insO K k dx vs) ∧ FlR K G H k vs fs ∧ (∀ r ∈ rg H k p, He r = none) ∧ (∀ r ∈ rg H k p, G r = none) ∧ (b = true ∧ S = some (.ins p dx k) ∨ b = false ∧ ∀ p' dx' k', S = some (.ins p' dx' k') → ∀ r ∈ rg H k' p', r ∉ rg H k p) ∧ ∀ (j : Nat) (b2 : Bool) (k2 : Nat) (gs : List D) (q : Addr), j ≠ i → env[j]? = some (.ob b2 k2 gs) → σ[j]? = some (some (.ref q)) → ∀ r ∈ rg H k2 q, r ∉ rg H k p
  s : ∀ p dx k, S = some (.ins p dx k) → (∀ r ∈ rg H k p, G r = none ∧ He r = none ∧ (∃ o, H r = some o) ∧ ∀ ws, H r ≠ some (.lst ws)) ∧ ∃ ws, H p = some (insO K k dx ws)
  l : ∀ (i : Nat) (ds : List D), env[i]? = some (.ln ds) → ∃ (p : Addr) (vs : List V), σ[i]? = some (some (.ref p)) ∧ H p = some (.lst vs) ∧ DpAll K G vs ds ∧ He p = none ∧ G p = none ∧ S = some (.lst p) ∧ (∀ (j : Nat) (es : List D), j ≠ i → env[j]? = some (.ln es) → False) ∧ ∀ (j : Nat) (es : List D) (q : Addr), env[j]? = some (.ow es) → σ[j]? = some (some (.ref q)) → q ≠ p
section
variable {S : Option Bor} {K : PySem.W.Frag} {ca : Str → Value} {W : WX} {He Ge G G' H H1 G1 : Hp} {σ : L2.St} {env : List Sl}
theorem Ext.wid (a : Ext He Ge H G) (b : Ext He G H1 G1) : Ext He Ge H1 G1 := ⟨b.a, a.b.trans b.b, b.c, fun p o h n => b.d p o h (a.d p o h n)⟩
theorem RSG.wid (a : Ext He Ge H G') (h : RSG K S He G' G σ H1 env) : RSG K S He Ge G σ H1 env := ⟨a.wid h.x, h.e, h.o, h.b, h.s, h.l⟩
/-- an address that a slot, or what is lent, has for itself -/
def Us (S : Option Bor) (H : Hp) (σ : L2.St) (env : List Sl) (p : Addr) : Prop :=
  (∃ (i : Nat) (ds : List D), env[i]? = some (Sl.ow ds) ∧ σ[i]? = some (some (V.ref p))) ∨ (∃ (i : Nat) (ds : List D), env[i]? = some (Sl.ln ds) ∧ σ[i]? = some (some (V.ref p)))
    ∨ (∃ (i : Nat) (b : Bool) (k : Nat) (fs : List D) (q : Addr), env[i]? = some (Sl.ob b k fs) ∧ σ[i]? = some (some (V.ref q)) ∧ p ∈ rg H k q) ∨ ∃ (q dx : Addr) (k : Nat), S = some (Bor.ins q dx k) ∧ p ∈ rg H k q
theorem RSG.us (h : RSG K S He Ge G σ H env) {p : Addr} (u : Us S H σ env p) : (∃ o, H p = some o) ∧ He p = none ∧ G p = none := by
  rcases u with ⟨i, ds, u1, u2⟩ | ⟨i, ds, u1, u2⟩ | ⟨i, b, k, fs, q, u1, u2, u3⟩ | ⟨q, dx, k, u1, u2⟩
  · obtain ⟨p2, vs, a1, a2, a3, a4, a5, _⟩ := h.o i ds u1
    rw [u2] at a1
    cases a1
    exact ⟨⟨_, a2⟩, a4, a5⟩
  · obtain ⟨p2, vs, a1, a2, a3, a4, a5, _⟩ := h.l i ds u1
    rw [u2] at a1
    cases a1
    exact ⟨⟨_, a2⟩, a4, a5⟩
  · obtain ⟨p2, dx, vs, a1, a2, a3, a4, a5, _⟩ := h.b i b k fs u1
    rw [u2] at a1
    cases a1
    exact ⟨(rg_facts a2 a3 p u3).1, a4 p u3, a5 p u3⟩
  · obtain ⟨a, _⟩ := h.s q dx k u1
    obtain ⟨a1, a2, a3, _⟩ := a p u2
    exact ⟨a3, a2, a1⟩
/-- what is nobody's own may change -/
theorem RSG.move {He' Ge' H' : Hp} (h : RSG K S He Ge G σ H env) (x : Ext He' Ge' H' G') (s : Same G G') (m : ∀ p, Us S H σ env p → H' p = H p ∧ He' p = none ∧ G' p = none) : RSG K S He' Ge' G' σ H' env := by
  have rgB : ∀ {i : Nat} {b : Bool} {k : Nat} {fs : List D} {q : Addr}, env[i]? = some (Sl.ob b k fs) → σ[i]? = some (some (V.ref q)) → ∀ r ∈ rg H k q, H' r = H r ∧ He' r = none ∧ G' r = none := fun u1 u2 r hr => m r (.inr (.inr (.inl ⟨_, _, _, _, _, u1, u2, hr⟩)))
  have rgS : ∀ {q dx : Addr} {k : Nat}, S = some (Bor.ins q dx k) → ∀ r ∈ rg H k q, H' r = H r ∧ He' r = none ∧ G' r = none := fun u1 r hr => m r (.inr (.inr (.inr ⟨_, _, _, u1, hr⟩)))
  refine ⟨x, h.e.mono s, fun i ds q => ?_, fun i b k fs q => ?_, fun p dx k q => ?_, fun i ds q => ?_⟩
  · obtain ⟨p, vs, a1, a2, a3, a4, a5, a6⟩ := h.o i ds q
    obtain ⟨m1, m2, m3⟩ := m p (.inl ⟨i, ds, q, a1⟩)
    exact ⟨p, vs, a1, by rw [m1]; exact a2, dpAll_mono s a3, m2, m3, a6⟩
  · obtain ⟨p, dx, vs, a1, a2, a3, a4, a5, a7, a6⟩ := h.b i b k fs q
    have e := rg_eq (k := k) (rgB q a1 p rg_self).1
    refine ⟨p, dx, vs, a1, by rw [(rgB q a1 p rg_self).1]; exact a2, a3.move a2 s fun r hr o ho => by rw [(rgB q a1 r hr).1]; exact ho, fun r hr => (rgB q a1 r (by rw [← e]; exact hr)).2.1, fun r hr => (rgB q a1 r (by rw [← e]; exact hr)).2.2, ?_, fun j b2 k2 gs q2 n2 e2 c2 r hr => ?_⟩
    · rcases a7 with y | ⟨y1, y2⟩
      · exact .inl y
      · refine .inr ⟨y1, fun p' dx' k' z r hr => ?_⟩
        have e' := rg_eq (k := k') (rgS z p' rg_self).1
        rw [e]
        rw [e'] at hr
        exact y2 p' dx' k' z r hr
    · have e' := rg_eq (k := k2) (rgB e2 c2 q2 rg_self).1
      rw [e]
      rw [e'] at hr
      exact a6 j b2 k2 gs q2 n2 e2 c2 r hr
  · obtain ⟨a1, ws, a2⟩ := h.s p dx k q
    have e := rg_eq (k := k) (rgS q p rg_self).1
    refine ⟨fun r hr => ?_, ws, by rw [(rgS q p rg_self).1]; exact a2⟩
    rw [e] at hr
    obtain ⟨m1, m2, m3⟩ := rgS q r hr
    obtain ⟨_, _, b3, b4⟩ := a1 r hr
    rw [m1]
    exact ⟨m3, m2, b3, b4⟩
  · obtain ⟨p, vs, a1, a2, a3, a4, a5, a6⟩ := h.l i ds q
    obtain ⟨m1, m2, m3⟩ := m p (.inr (.inl ⟨i, ds, q, a1⟩))
    exact ⟨p, vs, a1, by rw [m1]; exact a2, dpAll_mono s a3, m2, m3, a6⟩
theorem RSG.ext (h : RSG K S He Ge G σ H env) (e : Ext H G H1 G1) : RSG K S He Ge G1 σ H1 env :=
  h.move ⟨h.x.a.trans e.a, h.x.b.trans e.b, e.c, fun p o a n => e.d p o (h.x.a p o a) (h.x.d p o a n)⟩ e.b fun p u => by
    obtain ⟨⟨o, ho⟩, u2, u3⟩ := h.us u
    exact ⟨by rw [e.a p o ho, ho], u2, e.d p o ho u3⟩
theorem RSG.back (h : RSG K S He Ge G σ H env) (s : Same G G') (e : Ext H G' H1 G1) : RSG K S He Ge G σ H1 env :=
  h.move ⟨h.x.a.trans e.a, h.x.b, s.trans (e.b.trans e.c), h.x.d⟩ (Same.refl _) fun p u => by
    obtain ⟨⟨o, ho⟩, u2, u3⟩ := h.us u
    exact ⟨by rw [e.a p o ho, ho], u2, u3⟩
theorem RSG.grow (h : RSG K S He Ge G σ H env) (s : Same H H1) : RSG K S He Ge G σ H1 env :=
  h.move ⟨h.x.a.trans s, h.x.b, h.x.c.trans s, h.x.d⟩ (Same.refl _) fun p u => by
    obtain ⟨⟨o, ho⟩, u2, u3⟩ := h.us u
    exact ⟨by rw [s p o ho, ho], u2, u3⟩
theorem insO_ne {k : Nat} {dx : Addr} {vs ws : List V} : insO K k dx vs ≠ .lst ws := by intro z; cases z
theorem ne_kind {H : Hp} {p q : Addr} {k : Nat} {dx : Addr} {vs ws : List V} (h1 : H p = some (insO K k dx vs)) (h2 : H q = some (.lst ws)) : p ≠ q := fun e => by
  subst e
  rw [h1] at h2
  exact insO_ne (Option.some.inj h2)
/-- a slot that owns nothing any more -/
theorem RSG.put {i : Nat} {o : Option V} {z : Sl} (h : RSG K S He Ge G σ H env) (z1 : ∀ ds, z ≠ .ow ds) (z2 : ∀ b k fs, z ≠ .ob b k fs) (z3 : ∀ ds, z ≠ .ln ds) (e : EnvL K G (σ.set i o) (env.set i z)) : RSG K S He Ge G (σ.set i o) H (env.set i z) := by
  refine ⟨h.x, e, fun j es q => ?_, fun j b k fs q => ?_, h.s, fun j es q => ?_⟩
  · obtain ⟨nz, q⟩ := ow_set (z1 _) q
    obtain ⟨p, vs, a1, a2, a3, a4, a5, a6⟩ := h.o j es q
    refine ⟨p, vs, by rw [List.getElem?_set_ne nz]; exact a1, a2, a3, a4, a5, fun j2 es2 q2 n2 e2 c2 => ?_⟩
    obtain ⟨nz2, e2⟩ := ow_set (z1 _) e2
    rw [List.getElem?_set_ne nz2] at c2
    exact a6 j2 es2 q2 n2 e2 c2
  · obtain ⟨nz, q⟩ := ob_set (z2 _ _ _) q
    obtain ⟨p, dx, vs, a1, a2, a3, a4, a5, a7, a6⟩ := h.b j b k fs q
    refine ⟨p, dx, vs, by rw [List.getElem?_set_ne nz]; exact a1, a2, a3, a4, a5, a7, fun j2 b2 k2 gs q2 n2 e2 c2 => ?_⟩
    obtain ⟨nz2, e2⟩ := ob_set (z2 _ _ _) e2
    rw [List.getElem?_set_ne nz2] at c2
    exact a6 j2 b2 k2 gs q2 n2 e2 c2
  · obtain ⟨nz, q⟩ := ln_set (z3 _) q
    obtain ⟨p, vs, a1, a2, a3, a4, a5, a6, a7, a8⟩ := h.l j es q
    refine ⟨p, vs, by rw [List.getElem?_set_ne nz]; exact a1, a2, a3, a4, a5, a6, fun j2 es2 n2 e2 => ?_, fun j2 es2 q2 e2 c2 => ?_⟩
    · obtain ⟨_, e2⟩ := ln_set (z3 _) e2
      exact a7 j2 es2 n2 e2
    · obtain ⟨nz2, e2⟩ := ow_set (z1 _) e2
      rw [List.getElem?_set_ne nz2] at c2
      exact a8 j2 es2 q2 e2 c2
theorem RSG.set {i : Nat} {v : V} {d : D} (h : RSG K S He Ge G σ H env) (p : Dp K G v d) : RSG K S He Ge G (σ.set i (some v)) H (env.set i (.fr d)) :=
  h.put (by intro ds z; cases z) (by intro b k fs z; cases z) (by intro ds z; cases z) (h.e.set p)
theorem RSG.unset {i : Nat} {o : Option V} (h : RSG K S He Ge G σ H env) : RSG K S He Ge G (σ.set i o) H (env.set i .no) :=
  h.put (by intro ds z; cases z) (by intro b k fs z; cases z) (by intro ds z; cases z) h.e.unset
theorem set_noop {α : Type} {l : List α} {i : Nat} {a : α} (h : l[i]? = some a) : l.set i a = l := by
  apply List.ext_getElem?
  intro j
  by_cases z : i = j
  · subst z
    have hi : i < l.length := by
      rcases Nat.lt_or_ge i l.length with z | z
      · exact z
      · rw [List.getElem?_eq_none z] at h; cases h
    rw [List.getElem?_set_self hi, h]
  · rw [List.getElem?_set_ne z]
theorem RSG.forget {i : Nat} {a : Option V} (h : RSG K S He Ge G σ H env) (c : σ[i]? = some a) : RSG K S He Ge G σ H (env.set i .no) := by
  have z := h.unset (i := i) (o := a)
  rw [set_noop c] at z
  exact z
theorem lt_of_get {α : Type} {l : List α} {i : Nat} {a : α} (h : l[i]? = some a) : i < l.length := by
  rcases Nat.lt_or_ge i l.length with z | z
  · exact z
  · rw [List.getElem?_eq_none z] at h; cases h
/-- a list of one's own is nobody else's -/
theorem RSG.us_ow {i : Nat} {ds : List D} {p : Addr} (h : RSG K S He Ge G σ H env) (q : env[i]? = some (.ow ds)) (c : σ[i]? = some (some (.ref p))) {p' : Addr} (u : Us S H σ (env.set i .no) p') : p' ≠ p := by
  obtain ⟨p0, vs, a1, a2, a3, a4, a5, a6⟩ := h.o i ds q
  rw [c] at a1
  cases a1
  rcases u with ⟨j, es, u1, u2⟩ | ⟨j, es, u1, u2⟩ | ⟨j, b, k, fs, q', u1, u2, u3⟩ | ⟨q', dx, k, u1, u2⟩
  · obtain ⟨nz, u1⟩ := ow_set (by intro z; cases z) u1
    exact a6 j es p' (Ne.symm nz) u1 u2
  · obtain ⟨nz, u1⟩ := ln_set (by intro z; cases z) u1
    obtain ⟨p2, _, b1, _, _, _, _, _, _, b8⟩ := h.l j es u1
    rw [u2] at b1
    cases b1
    exact fun z => b8 i ds p q c z.symm
  · obtain ⟨nz, u1⟩ := ob_set (by intro z; cases z) u1
    obtain ⟨p2, dx, vs2, b1, b2, b3, _⟩ := h.b j b k fs u1
    rw [u2] at b1
    cases b1
    exact fun z => (rg_facts b2 b3 p' u3).2 vs (by rw [z]; exact a2)
  · obtain ⟨b1, _⟩ := h.s q' dx k u1
    exact fun z => (b1 p' u2).2.2.2 vs (by rw [z]; exact a2)
/-- a lent list is nobody else's -/
theorem RSG.us_ln {i : Nat} {ds : List D} {p : Addr} (h : RSG K S He Ge G σ H env) (q : env[i]? = some (.ln ds)) (c : σ[i]? = some (some (.ref p))) {p' : Addr} (u : Us S H σ (env.set i .no) p') : p' ≠ p := by
  obtain ⟨p0, vs, a1, a2, a3, a4, a5, a6, a7, a8⟩ := h.l i ds q
  rw [c] at a1
  cases a1
  rcases u with ⟨j, es, u1, u2⟩ | ⟨j, es, u1, u2⟩ | ⟨j, b, k, fs, q', u1, u2, u3⟩ | ⟨q', dx, k, u1, u2⟩
  · obtain ⟨nz, u1⟩ := ow_set (by intro z; cases z) u1
    exact a8 j es p' u1 u2
  · obtain ⟨nz, u1⟩ := ln_set (by intro z; cases z) u1
    exact (a7 j es (Ne.symm nz) u1).elim
  · obtain ⟨nz, u1⟩ := ob_set (by intro z; cases z) u1
    obtain ⟨p2, dx, vs2, b1, b2, b3, _⟩ := h.b j b k fs u1
    rw [u2] at b1
    cases b1
    exact fun z => (rg_facts b2 b3 p' u3).2 vs (by rw [z]; exact a2)
  · rw [a6] at u1
    cases u1
theorem RSG.see3 : ∀ (ms : List Nat) {G : Hp} {env : List Sl}, RSG K S He Ge G σ H env → ∃ G', Same G G' ∧ RSG K S He Ge G' σ H (Cw.see env ms) ∧ ∀ b o, G' b = some o → G b = some o ∨ ∃ vs, o = .lst vs
  | [], G, env, h => ⟨G, Same.refl _, h, fun _ _ e => .inl e⟩
  | i :: l, G, env, h => by
    unfold Cw.see
    cases q : env[i]? with
    | none => exact RSG.see3 l h
    | some z =>
      cases z with
      | no => exact RSG.see3 l h
      | fr d => exact RSG.see3 l h
      | ob b k fs => exact RSG.see3 l h
      | ln ds => exact RSG.see3 l h
      | ow ds =>
        obtain ⟨p, vs, a1, a2, a3, a4, a5, a6⟩ := h.o i ds q
        have s1 : Same G (upd G p (.lst vs)) := Same.upd a5
        have h1 : RSG K S He Ge (upd G p (.lst vs)) σ H (env.set i .no) := (h.forget a1).move ⟨h.x.a, h.x.b.trans s1, fun b o e => by
            by_cases z : b = p
            · subst z; rw [upd_same] at e; cases e; exact a2
            · rw [upd_ne z] at e; exact h.x.c b o e, fun b o e n => by rw [upd_ne (ne_of_none e a4)]; exact h.x.d b o e n⟩ s1 fun p' u => by
          obtain ⟨⟨o, ho⟩, u2, u3⟩ := (h.forget a1).us u
          exact ⟨rfl, u2, by rw [upd_ne (h.us_ow q a1 u)]; exact u3⟩
        have h2 : RSG K S He Ge (upd G p (.lst vs)) σ H (env.set i (.fr (.list ds))) := by
          have z := h1.set (i := i) (v := .ref p) (d := .list ds) (.lst (SqL.of upd_same) (dpAll_mono s1 a3))
          rw [set_noop a1, List.set_set] at z
          exact z
        obtain ⟨G2, c1, c2, c3⟩ := RSG.see3 l h2
        refine ⟨G2, s1.trans c1, c2, fun b o e => ?_⟩
        rcases c3 b o e with e | e
        · by_cases z : b = p
          · subst z; rw [upd_same] at e; cases e; exact .inr ⟨vs, rfl⟩
          · rw [upd_ne z] at e; exact .inl e
        · exact .inr e
theorem RSG.see (ms : List Nat) {G : Hp} {env : List Sl} (h : RSG K S He Ge G σ H env) : ∃ G', Same G G' ∧ RSG K S He Ge G' σ H (Cw.see env ms) := by
  obtain ⟨G', a, b, _⟩ := RSG.see3 ms h
  exact ⟨G', a, b⟩
theorem dpAll_flat {G G' : Hp} : ∀ {vs : List V} {ds : List D}, DpAll K G vs ds → ds.all flatD = true → DpAll K G' vs ds
  | _, _, .nil, _ => .nil
  | _, _, .cons a b, h => by
    rw [List.all_cons, Bool.and_eq_true] at h
    refine .cons ?_ (dpAll_flat b h.2)
    have h1 := h.1
    cases a with
    | non => exact .non
    | bl b => exact .bl b
    | int b => exact .int b
    | str b => exact .str b
    | _ => cases h1
/-- one thing more that stays -/
theorem RSG.add {a : Addr} {o : HO} (h : RSG K S He Ge G σ H env) (s : Same G G') (e : Ext H G' H1 G1) (hG : G a = none) (hH : H a = none) (h1 : H1 a = some o) : RSG K S He Ge (upd G a o) σ H1 env := by
  have R := h.back s e
  have s1 : Same G (upd G a o) := Same.upd hG
  have ne : ∀ p u, H p = some u → p ≠ a := fun p u hp z => by subst z; rw [hH] at hp; cases hp
  refine h.move ⟨R.x.a, R.x.b.trans s1, fun b u q => ?_, fun b u q n => ?_⟩ s1 fun p u => ?_
  · by_cases z : b = a
    · subst z; rw [upd_same] at q; cases q; exact h1
    · rw [upd_ne z] at q; exact R.x.c b u q
  · rw [upd_ne (ne b u (h.x.a b u q))]; exact R.x.d b u q n
  · obtain ⟨⟨o, ho⟩, u2, u3⟩ := h.us u
    exact ⟨by rw [e.a p o ho, ho], u2, by rw [upd_ne (ne p o ho)]; exact u3⟩
/-- a flat tuple that was made while own lists were looked at stays, though they don't -/
theorem RSG.keepT {v : V} {l : List D} (h : RSG K S He Ge G σ H env) (s : Same G G') (hs : ∀ b o, G' b = some o → G b = some o ∨ ∃ vs, o = .lst vs) (e : Ext H G' H1 G1) (p : Dp K G1 v (.tuple l)) (hl : l.all flatD = true) : ∃ G2, RSG K S He Ge G2 σ H1 env ∧ Same G G2 ∧ Dp K G2 v (.tuple l) := by
  cases p with
  | tup q r =>
    have key : ∀ a (o : HO), G1 a = some o → (∀ vs, o ≠ .lst vs) → ∃ G2, RSG K S He Ge G2 σ H1 env ∧ Same G G2 ∧ G2 a = some o := fun a o h1 hn => by
      cases hg : G a with
      | some y =>
        have := e.b a y (s a y hg)
        rw [h1] at this
        cases this
        exact ⟨G, h.back s e, Same.refl _, hg⟩
      | none =>
        have g' : G' a = none := by
          cases g' : G' a with
          | none => rfl
          | some z =>
            rcases hs a z g' with c | ⟨vs, c⟩
            · rw [hg] at c; cases c
            · have := e.b a z g'
              rw [h1] at this
              cases this
              exact absurd c (hn vs)
        have hH : H a = none := by
          cases hH : H a with
          | none => rfl
          | some z =>
            have := e.d a z hH g'
            rw [h1] at this
            cases this
        exact ⟨upd G a o, h.add s e hg hH (e.c a o h1), Same.upd hg, upd_same⟩
    rcases q with (q | ⟨o, q⟩) | q
    · obtain ⟨G2, a1, a2, a3⟩ := key _ _ q (fun vs z => by cases z)
      exact ⟨G2, a1, a2, .tup (.inl (.inl a3)) (dpAll_flat r hl)⟩
    · obtain ⟨G2, a1, a2, a3⟩ := key _ _ q (fun vs z => by cases z)
      exact ⟨G2, a1, a2, .tup (.inl (.inr ⟨o, a3⟩)) (dpAll_flat r hl)⟩
    · exact ⟨G, h.back s e, Same.refl _, .tup (.inr q) (dpAll_flat r hl)⟩
theorem RSG.setO {i : Nat} {p : Addr} {vs : List V} {ds : List D} (h : RSG K S He Ge G σ H env) (a2 : H p = some (.lst vs)) (a3 : DpAll K G vs ds) (a4 : He p = none) (a5 : G p = none)
    (a6 : ∀ (j : Nat) (es : List D) (q : Addr), j ≠ i → env[j]? = some (.ow es) → σ[j]? = some (some (.ref q)) → q ≠ p)
    (a7 : ∀ (j : Nat) (es : List D) (q : Addr), j ≠ i → env[j]? = some (.ln es) → σ[j]? = some (some (.ref q)) → p ≠ q) : RSG K S He Ge G (σ.set i (some (.ref p))) H (env.set i (.ow ds)) := by
  have out : ∀ (j : Nat) (o : Sl), (env.set i (.ow ds))[j]? = some o → (j = i ∧ o = .ow ds ∧ i < env.length) ∨ (j ≠ i ∧ env[j]? = some o) := by
    intro j o e
    by_cases z : i = j
    · subst z
      by_cases hi : i < env.length
      · rw [List.getElem?_set_self hi] at e; cases e; exact .inl ⟨rfl, rfl, hi⟩
      · rw [List.getElem?_eq_none (by rw [List.length_set]; omega)] at e; cases e
    · rw [List.getElem?_set_ne z] at e; exact .inr ⟨Ne.symm z, e⟩
  refine ⟨h.x, ⟨by rw [List.length_set, List.length_set]; exact h.e.len, fun j d e => ?_⟩, fun j es e => ?_, fun j b k fs e => ?_, h.s, fun j es e0 => by
    obtain ⟨nz, e⟩ := ln_set (by intro z; cases z) e0
    clear e0
    obtain ⟨p2, vs2, b1, b2, b3, b4, b5, b6, b7, b8⟩ := h.l j es e
    refine ⟨p2, vs2, by rw [List.getElem?_set_ne nz]; exact b1, b2, b3, b4, b5, b6, fun j2 es2 n2 e2 => ?_, fun j2 es2 q2 e2 c2 => ?_⟩
    · obtain ⟨_, e2⟩ := ln_set (by intro z; cases z) e2
      exact b7 j2 es2 n2 e2
    · rcases out j2 _ e2 with ⟨z3, _, hi⟩ | ⟨z3, e3⟩
      · subst z3
        rw [List.getElem?_set_self (by rw [h.e.len]; exact hi)] at c2
        cases c2
        exact a7 j es p2 (Ne.symm nz) e b1
      · rw [List.getElem?_set_ne (Ne.symm z3)] at c2
        exact b8 j2 es2 q2 e3 c2⟩
  case refine_3 =>
    obtain ⟨nz, e⟩ := ob_set (by intro z; cases z) e
    obtain ⟨p2, dx, vs2, b1, b2, b3, b4, b5, b7, b6⟩ := h.b j b k fs e
    refine ⟨p2, dx, vs2, by rw [List.getElem?_set_ne nz]; exact b1, b2, b3, b4, b5, b7, fun j2 bb k2 gs q2 n2 e2 c2 => ?_⟩
    obtain ⟨nz2, e2⟩ := ob_set (by intro z; cases z) e2
    rw [List.getElem?_set_ne nz2] at c2
    exact b6 j2 bb k2 gs q2 n2 e2 c2
  · rcases out j _ e with ⟨_, z, _⟩ | ⟨z, e⟩
    · cases z
    · obtain ⟨v, b1, b2⟩ := h.e.get j d e
      exact ⟨v, by rw [List.getElem?_set_ne (Ne.symm z)]; exact b1, b2⟩
  · rcases out j _ e with ⟨z, z2, hi⟩ | ⟨z, e0⟩
    · subst z
      cases z2
      refine ⟨p, vs, List.getElem?_set_self (by rw [h.e.len]; exact hi), a2, a3, a4, a5, fun j2 es2 q2 n2 e2 c2 => ?_⟩
      rcases out j2 _ e2 with ⟨z3, _, _⟩ | ⟨z3, e3⟩
      · exact (n2 z3).elim
      · rw [List.getElem?_set_ne (Ne.symm z3)] at c2
        exact a6 j2 es2 q2 z3 e3 c2
    · obtain ⟨p2, vs2, b1, b2, b3, b4, b5, b6⟩ := h.o j es e0
      refine ⟨p2, vs2, by rw [List.getElem?_set_ne (Ne.symm z)]; exact b1, b2, b3, b4, b5, fun j2 es2 q2 n2 e2 c2 => ?_⟩
      rcases out j2 _ e2 with ⟨z3, _, hi⟩ | ⟨z3, e3⟩
      · subst z3
        rw [List.getElem?_set_self (by rw [h.e.len]; exact hi)] at c2
        cases c2
        exact fun w => a6 j es p2 z e0 b1 w.symm
      · rw [List.getElem?_set_ne (Ne.symm z3)] at c2
        exact b6 j2 es2 q2 n2 e3 c2
/-- a new list of one's own -/
theorem RSG.setN {i : Nat} {p : Addr} {vs : List V} {ds : List D} (h : RSG K S He Ge G σ H env) (e : Ext H G H1 G1) (n1 : H p = none) (n2 : G1 p = none) (a2 : H1 p = some (.lst vs)) (a3 : DpAll K G1 vs ds) : RSG K S He Ge G1 (σ.set i (some (.ref p))) H1 (env.set i (.ow ds)) := by
  refine (h.ext e).setO a2 a3 ?_ n2 (fun j es q _ e2 c2 => ?_) (fun j es q _ e2 c2 => ?_)
  · cases z : He p with
    | none => rfl
    | some o => rw [h.x.a p o z] at n1; cases n1
  · obtain ⟨p2, vs2, b1, b2, _⟩ := h.o j es e2
    rw [c2] at b1
    cases b1
    exact ne_of_none b2 n1
  · obtain ⟨p2, vs2, b1, b2, _⟩ := h.l j es e2
    rw [c2] at b1
    cases b1
    exact (ne_of_none b2 n1).symm
/-- a list of one's own changed -/
theorem RSG.upd {i : Nat} {p : Addr} {vs ws : List V} {ds es : List D} (h : RSG K S He Ge G σ H env) (q : env[i]? = some (.ow ds)) (c : σ[i]? = some (some (.ref p))) (a2 : H p = some (.lst vs)) (a3 : DpAll K G ws es) : RSG K S He Ge G σ (L2.upd H p (.lst ws)) (env.set i (.ow es)) := by
  obtain ⟨p2, vs2, b1, b2, b3, b4, b5, b6⟩ := h.o i ds q
  rw [c] at b1
  cases b1
  have h2 : RSG K S He Ge G σ (L2.upd H p (.lst ws)) (env.set i .no) := (h.forget c).move ⟨fun b o e => by rw [upd_ne (ne_of_none e b4)]; exact h.x.a b o e, h.x.b, fun b o e => by rw [upd_ne (ne_of_none e b5)]; exact h.x.c b o e, h.x.d⟩ (Same.refl _) fun p' u => by
    obtain ⟨⟨o, ho⟩, u2, u3⟩ := (h.forget c).us u
    exact ⟨upd_ne (h.us_ow q c u), u2, u3⟩
  have h3 := h2.setO (i := i) (p := p) (vs := ws) (ds := es) upd_same a3 b4 b5 (fun j es2 q2 n2 e2 c2 => by
    rw [List.getElem?_set_ne (Ne.symm n2)] at e2
    exact b6 j es2 q2 n2 e2 c2) (fun j es2 q2 n2 e2 c2 => by
    obtain ⟨_, e2⟩ := ln_set (by intro z; cases z) e2
    obtain ⟨p3, vs3, d1, d2, d3, d4, d5, d6, d7, d8⟩ := h.l j es2 e2
    rw [c2] at d1
    cases d1
    exact d8 i ds p q c)
  rw [List.set_set, set_noop c] at h3
  exact h3

/-! ### objects -/
theorem EnvL.setX {z : Sl} {i : Nat} {o : Option V} (h : EnvL K G σ env) (hz : ∀ d, z ≠ .fr d) : EnvL K G (σ.set i o) (env.set i z) := by
  refine ⟨by rw [List.length_set, List.length_set, h.len], fun j e q => ?_⟩
  by_cases y : i = j
  · subst y
    by_cases hi : i < env.length
    · rw [List.getElem?_set_self hi] at q
      exact (hz _ (Option.some.inj q)).elim
    · rw [List.getElem?_eq_none (by rw [List.length_set]; omega)] at q
      cases q
  · rw [List.getElem?_set_ne y] at q ⊢
    exact h.get j e q
/-- what stays when an object changes -/
theorem Ext.out {R R' : List Addr} {p : Addr} {o : HO} (e : Ext (delL H R) G (delL H1 R') G1) (hp : H p = some o) (n : p ∉ R) : H1 p = some o ∧ p ∉ R' := by
  have y := e.a p o (by rw [delL_ne n]; exact hp)
  exact ⟨(delL_some y).2, (delL_some y).1⟩
theorem Ext.outG {R R' : List Addr} {p : Addr} {o : HO} (e : Ext (delL H R) G (delL H1 R') G1) (hp : H p = some o) (n : p ∉ R) (g : G p = none) : G1 p = none := e.d p o (by rw [delL_ne n]; exact hp) g
/-- an object is changed by a call: what is left of it is not told -/
theorem RSG.obX {i : Nat} {p dx : Addr} {vs ws : List V} {b : Bool} {k : Nat} {fs : List D} (h : RSG K S He Ge G σ H env) (q : env[i]? = some (.ob b k fs)) (c : σ[i]? = some (some (.ref p))) (a1 : H p = some (insO K k dx vs)) (e : Ext (delL H (rg H k p)) G (delL H1 (rg H1 k p)) G1) (g1 : H1 p = some (insO K k dx ws))
    (g2 : ∀ r ∈ rg H1 k p, (∃ o, H1 r = some o) ∧ ∀ ws, H1 r ≠ some (.lst ws)) : RSG K S He Ge G1 σ H1 (env.set i .no) := by
  obtain ⟨p0, dx0, vs0, c1, c2, c3, c4, c5, c6, c7⟩ := h.b i b k fs q
  rw [c] at c1
  cases c1
  have hne : ∀ (b : Addr) (o : HO), He b = some o → b ∉ rg H k p := fun b o z y => by rw [c4 b y] at z; cases z
  have ed : dx0 = dx := by
    rw [a1] at c2
    have z := Option.some.inj c2
    unfold insO at z
    injection z with z1 z2 z3
    exact z2.symm
  subst ed
  have hHe : ∀ r ∈ rg H1 k p, He r = none := fun r hr => by
    cases z : He r with
    | none => rfl
    | some o => exact ((e.out (h.x.a r o z) (hne r o z)).2 hr).elim
  have hG1 : ∀ r ∈ rg H1 k p, G1 r = none := fun r hr => by
    cases z : G1 r with
    | none => rfl
    | some o => exact ((delL_some (e.c r o z)).1 hr).elim
  have osl : ∀ {q2 : Addr} {us : List V}, H q2 = some (.lst us) → q2 ∉ rg H k p := fun hq y => (rg_facts c2 c3 _ y).2 _ hq
  have ob : ∀ {j : Nat} {b2 : Bool} {k2 : Nat} {gs : List D} {q2 : Addr}, j ≠ i → env[j]? = some (.ob b2 k2 gs) → σ[j]? = some (some (.ref q2)) → ∀ r ∈ rg H k2 q2, H1 r = H r ∧ r ∉ rg H1 k p ∧ G1 r = none := fun {j b2 k2 gs q2} n2 e2 d2 r hr => by
    obtain ⟨p2, dx2, vs2, a1, a2, a3, a4, a5, _⟩ := h.b j b2 k2 gs e2
    rw [d2] at a1
    cases a1
    obtain ⟨⟨o, ho⟩, _⟩ := rg_facts a2 a3 r hr
    have n := c7 j b2 k2 gs q2 n2 e2 d2 r hr
    obtain ⟨y1, y2⟩ := e.out ho n
    exact ⟨by rw [y1, ho], y2, e.outG ho n (a5 r hr)⟩
  have sb : b = false → ∀ {p' dx' k'}, S = some (.ins p' dx' k') → ∀ r ∈ rg H k' p', H1 r = H r ∧ r ∉ rg H1 k p ∧ G1 r = none := fun hb p' dx' k' z r hr => by
    rcases c6 with ⟨y, _⟩ | ⟨_, y⟩
    · rw [hb] at y; cases y
    · obtain ⟨w, _⟩ := h.s p' dx' k' z
      obtain ⟨w1, w2, ⟨o, ho⟩, w4⟩ := w r hr
      obtain ⟨y1, y2⟩ := e.out ho (y p' dx' k' z r hr)
      exact ⟨by rw [y1, ho], y2, e.outG ho (y p' dx' k' z r hr) w1⟩
  refine ⟨⟨fun b o z => (e.out (h.x.a b o z) (hne b o z)).1, h.x.b.trans e.b, fun b o z => (delL_some (e.c b o z)).2, fun b o z n => e.outG (h.x.a b o z) (hne b o z) (h.x.d b o z n)⟩, ?_, fun j ds z => ?_, fun j b2 k2 gs z => ?_, fun p2 dx2 k2 z => ?_, fun j ds z => ?_⟩
  · have z := (h.e.mono e.b).setX (z := .no) (i := i) (o := some (.ref p)) (by intro d z; cases z)
    rw [set_noop c] at z
    exact z
  · obtain ⟨_, z⟩ := ow_set (by intro z; cases z) z
    obtain ⟨p2, vs2, a1, a2, a3, a4, a5, a6⟩ := h.o j ds z
    refine ⟨p2, vs2, a1, (e.out a2 (osl a2)).1, dpAll_mono e.b a3, a4, e.outG a2 (osl a2) a5, fun j2 es q2 n2 e2 c2 => ?_⟩
    obtain ⟨_, e2⟩ := ow_set (by intro z; cases z) e2
    exact a6 j2 es q2 n2 e2 c2
  · obtain ⟨nz, z⟩ := ob_set (by intro z; cases z) z
    obtain ⟨p2, dx2, vs2, a1, a2, a3, a4, a5, a7, a6⟩ := h.b j b2 k2 gs z
    have ho := ob (Ne.symm nz) z a1
    have er := rg_eq (k := k2) (ho p2 rg_self).1
    refine ⟨p2, dx2, vs2, a1, by rw [(ho p2 rg_self).1]; exact a2, a3.move a2 e.b fun r hr o hh => by rw [(ho r hr).1]; exact hh, fun r hr => a4 r (by rw [← er]; exact hr), fun r hr => (ho r (by rw [← er]; exact hr)).2.2, ?_, fun j2 b3 k3 gs3 q2 n2 e2 c2 r hr => ?_⟩
    · rcases a7 with y | ⟨y1, y2⟩
      · exact .inl y
      · refine .inr ⟨y1, fun p' dx' k' w r hr => ?_⟩
        rw [er]
        rcases c6 with ⟨yb, ys⟩ | ⟨yb, ys⟩
        · rw [ys] at w
          cases w
          exact fun hr2 => (ho r hr2).2.1 hr
        · have es := rg_eq (k := k') (sb yb w p' rg_self).1
          rw [es] at hr
          exact y2 p' dx' k' w r hr
    · obtain ⟨nz2, e2⟩ := ob_set (by intro z; cases z) e2
      have ho2 := ob (Ne.symm nz2) e2 c2
      rw [er]
      rw [rg_eq (k := k3) (ho2 q2 rg_self).1] at hr
      exact a6 j2 b3 k3 gs3 q2 n2 e2 c2 r hr
  · rcases c6 with ⟨_, y⟩ | ⟨yb, y⟩
    · rw [y] at z
      cases z
      exact ⟨fun r hr => ⟨hG1 r hr, hHe r hr, g2 r hr⟩, ws, g1⟩
    · obtain ⟨b1, us, b2⟩ := h.s p2 dx2 k2 z
      have es := rg_eq (k := k2) (sb yb z p2 rg_self).1
      refine ⟨fun r hr => ?_, us, by rw [(sb yb z p2 rg_self).1]; exact b2⟩
      rw [es] at hr
      obtain ⟨w1, w2, w3⟩ := sb yb z r hr
      obtain ⟨_, d2, d3, d4⟩ := b1 r hr
      rw [w1]
      exact ⟨w3, d2, d3, d4⟩
  · obtain ⟨_, z⟩ := ln_set (by intro z; cases z) z
    obtain ⟨p2, vs2, a1, a2, a3, a4, a5, a6, a7, a8⟩ := h.l j ds z
    refine ⟨p2, vs2, a1, (e.out a2 (osl a2)).1, dpAll_mono e.b a3, a4, e.outG a2 (osl a2) a5, a6, fun j2 es n2 e2 => ?_, fun j2 es q2 e2 c2 => ?_⟩
    · obtain ⟨_, e2⟩ := ln_set (by intro z; cases z) e2
      exact a7 j2 es n2 e2
    · obtain ⟨_, e2⟩ := ow_set (by intro z; cases z) e2
      exact a8 j2 es q2 e2 c2
theorem RSG.setB {i : Nat} {p dx : Addr} {vs : List V} {b : Bool} {k : Nat} {fs : List D} (h : RSG K S He Ge G σ H env) (a2 : H p = some (insO K k dx vs)) (a3 : FlR K G H k vs fs) (a4 : ∀ r ∈ rg H k p, He r = none) (a5 : ∀ r ∈ rg H k p, G r = none) (a7 : b = true ∧ S = some (.ins p dx k) ∨ b = false ∧ ∀ p' dx' k', S = some (.ins p' dx' k') → ∀ r ∈ rg H k' p', r ∉ rg H k p)
    (a6 : ∀ (j : Nat) (b2 : Bool) (k2 : Nat) (gs : List D) (q : Addr), j ≠ i → env[j]? = some (.ob b2 k2 gs) → σ[j]? = some (some (.ref q)) → ∀ r ∈ rg H k2 q, r ∉ rg H k p) : RSG K S He Ge G (σ.set i (some (.ref p))) H (env.set i (.ob b k fs)) := by
  have out : ∀ (j : Nat) (b2 : Bool) (k2 : Nat) (gs : List D), (env.set i (.ob b k fs))[j]? = some (.ob b2 k2 gs) → (j = i ∧ b2 = b ∧ k2 = k ∧ gs = fs ∧ i < env.length) ∨ (j ≠ i ∧ env[j]? = some (.ob b2 k2 gs)) := by
    intro j b2 k2 gs e
    by_cases z : i = j
    · subst z
      by_cases hi : i < env.length
      · rw [List.getElem?_set_self hi] at e; cases e; exact .inl ⟨rfl, rfl, rfl, rfl, hi⟩
      · rw [List.getElem?_eq_none (by rw [List.length_set]; omega)] at e; cases e
    · rw [List.getElem?_set_ne z] at e; exact .inr ⟨Ne.symm z, e⟩
  refine ⟨h.x, h.e.setX (by intro d z; cases z), fun j ds z => ?_, fun j b2 k2 gs z => ?_, h.s, fun j es e => by
    obtain ⟨nz, e⟩ := ln_set (by intro z; cases z) e
    obtain ⟨p2, vs2, b1, b2, b3, b4, b5, b6, b7, b8⟩ := h.l j es e
    refine ⟨p2, vs2, by rw [List.getElem?_set_ne nz]; exact b1, b2, b3, b4, b5, b6, fun j2 es2 n2 e2 => ?_, fun j2 es2 q2 e2 c2 => ?_⟩
    · obtain ⟨_, e2⟩ := ln_set (by intro z; cases z) e2
      exact b7 j2 es2 n2 e2
    · obtain ⟨nz2, e2⟩ := ow_set (by intro z; cases z) e2
      rw [List.getElem?_set_ne nz2] at c2
      exact b8 j2 es2 q2 e2 c2⟩
  · obtain ⟨nz, z⟩ := ow_set (by intro z; cases z) z
    obtain ⟨p2, vs2, c1, c2, c3, c4, c5, c6⟩ := h.o j ds z
    refine ⟨p2, vs2, by rw [List.getElem?_set_ne nz]; exact c1, c2, c3, c4, c5, fun j2 es q2 n2 e2 d2 => ?_⟩
    obtain ⟨nz2, e2⟩ := ow_set (by intro z; cases z) e2
    rw [List.getElem?_set_ne nz2] at d2
    exact c6 j2 es q2 n2 e2 d2
  · rcases out j b2 k2 gs z with ⟨z1, z2, z3, z4, hi⟩ | ⟨z1, y⟩
    · subst z1 z2 z3 z4
      refine ⟨p, dx, vs, List.getElem?_set_self (by rw [h.e.len]; exact hi), a2, a3, a4, a5, a7, fun j2 b3 k3 gs3 q2 n2 e2 d2 => ?_⟩
      rcases out j2 b3 k3 gs3 e2 with ⟨w, _⟩ | ⟨w, e2⟩
      · exact (n2 w).elim
      · rw [List.getElem?_set_ne (Ne.symm w)] at d2
        exact a6 j2 b3 k3 gs3 q2 n2 e2 d2
    · clear z
      obtain ⟨p2, dx2, vs2, c1, c2, c3, c4, c5, c7, c6⟩ := h.b j b2 k2 gs y
      refine ⟨p2, dx2, vs2, by rw [List.getElem?_set_ne (Ne.symm z1)]; exact c1, c2, c3, c4, c5, c7, fun j2 b3 k3 gs3 q2 n2 e2 d2 => ?_⟩
      rcases out j2 b3 k3 gs3 e2 with ⟨w, w2, w3, w4, hi⟩ | ⟨w, e2⟩
      · subst w w2 w3 w4
        rw [List.getElem?_set_self (by rw [h.e.len]; exact hi)] at d2
        cases d2
        exact fun r hr hr2 => a6 j b2 k2 gs p2 z1 y c1 r hr2 hr
      · rw [List.getElem?_set_ne (Ne.symm w)] at d2
        exact c6 j2 b3 k3 gs3 q2 n2 e2 d2
/-- an object is changed by a call -/
theorem RSG.obU {i : Nat} {p dx : Addr} {vs ws : List V} {b : Bool} {k : Nat} {fs gs : List D} (h : RSG K S He Ge G σ H env) (q : env[i]? = some (.ob b k fs)) (c : σ[i]? = some (some (.ref p))) (a1 : H p = some (insO K k dx vs)) (e : Ext (delL H (rg H k p)) G (delL H1 (rg H1 k p)) G1)
    (a2 : H1 p = some (insO K k dx ws)) (a3 : FlR K G1 H1 k ws gs) (a5 : ∀ r ∈ rg H1 k p, G1 r = none) : RSG K S He Ge G1 σ H1 (env.set i (.ob b k gs)) := by
  have hX := h.obX q c a1 e a2 (rg_facts a2 a3)
  obtain ⟨p0, dx0, vs0, c1, c2, c3, c4, c5, c6, c7⟩ := h.b i b k fs q
  rw [c] at c1
  cases c1
  have ed : dx0 = dx := by
    rw [a1] at c2
    have z := Option.some.inj c2
    unfold insO at z
    injection z with z1 z2 z3
    exact z2.symm
  subst ed
  have hne : ∀ (b : Addr) (o : HO), He b = some o → b ∉ rg H k p := fun b o z y => by rw [c4 b y] at z; cases z
  have hHe : ∀ r ∈ rg H1 k p, He r = none := fun r hr => by
    cases z : He r with
    | none => rfl
    | some o => exact ((e.out (h.x.a r o z) (hne r o z)).2 hr).elim
  have h1 := hX.setB (i := i) (p := p) (b := b) a2 a3 hHe a5 (by
    rcases c6 with y | ⟨y1, y2⟩
    · exact .inl y
    · refine .inr ⟨y1, fun p' dx' k' z r hr => ?_⟩
      obtain ⟨w, _⟩ := h.s p' dx' k' z
      have es := rg_eq (k := k') (H := H) (H' := H1) (p := p') (by
        obtain ⟨_, _, ⟨o, ho⟩, _⟩ := w p' rg_self
        rw [(e.out ho (y2 p' dx' k' z p' rg_self)).1, ho])
      rw [es] at hr
      obtain ⟨_, _, ⟨o, ho⟩, _⟩ := w r hr
      exact (e.out ho (y2 p' dx' k' z r hr)).2) fun j b2 k2 gs2 q2 n2 e2 d2 r hr => by
    obtain ⟨_, e2⟩ := ob_set (by intro z; cases z) e2
    obtain ⟨p2, dx2, vs2, b1, b3, b4, b5, b6, _⟩ := h.b j b2 k2 gs2 e2
    rw [d2] at b1
    cases b1
    have es := rg_eq (k := k2) (H := H) (H' := H1) (p := q2) (by rw [(e.out b3 (c7 j b2 k2 gs2 q2 n2 e2 d2 q2 rg_self)).1, b3])
    rw [es] at hr
    obtain ⟨⟨o, ho⟩, _⟩ := rg_facts b3 b4 r hr
    exact (e.out ho (c7 j b2 k2 gs2 q2 n2 e2 d2 r hr)).2
  rw [List.set_set, set_noop c] at h1
  exact h1
/-- a new object of one's own -/
theorem RSG.obN {i : Nat} {p dx : Addr} {ws : List V} {k : Nat} {gs : List D} (h : RSG K S He Ge G σ H env) (e : Ext H G (delL H1 (rg H1 k p)) G1) (n1 : H p = none) (a2 : H1 p = some (insO K k dx ws)) (a3 : FlR K G1 H1 k ws gs) (a5 : ∀ r ∈ rg H1 k p, G1 r = none) : RSG K S He Ge G1 (σ.set i (some (.ref p))) H1 (env.set i (.ob false k gs)) := by
  have ne : ∀ r o, H r = some o → r ∉ rg H1 k p ∧ H1 r = H r := fun r o ho => by
    obtain ⟨y1, y2⟩ := delL_some (e.a r o ho)
    exact ⟨y1, by rw [y2, ho]⟩
  refine ((h.ext e).grow delL_same).setB a2 a3 (fun r hr => ?_) a5 (.inr ⟨rfl, fun p' dx' k' z r hr => ?_⟩) fun j b2 k2 gs2 q2 _ e2 d2 r hr => ?_
  · cases z : He r with
    | none => rfl
    | some o => exact ((ne r o (h.x.a r o z)).1 hr).elim
  · obtain ⟨w, _⟩ := h.s p' dx' k' z
    obtain ⟨_, _, ⟨o, ho⟩, _⟩ := w p' rg_self
    rw [rg_eq (k := k') (ne p' o ho).2] at hr
    obtain ⟨_, _, ⟨o2, ho2⟩, _⟩ := w r hr
    exact (ne r o2 ho2).1
  · obtain ⟨p2, dx2, vs2, b1, b3, b4, _⟩ := h.b j b2 k2 gs2 e2
    rw [d2] at b1
    cases b1
    rw [rg_eq (k := k2) (ne q2 _ b3).2] at hr
    obtain ⟨⟨o, ho⟩, _⟩ := rg_facts b3 b4 r hr
    exact (ne r o ho).1
/-- a lent list again in its slot -/
theorem RSG.setL {i : Nat} {p : Addr} {vs : List V} {ds : List D} (h : RSG K S He Ge G σ H env) (hi : i < env.length) (c : σ[i]? = some (some (.ref p))) (a2 : H p = some (.lst vs)) (a3 : DpAll K G vs ds) (a4 : He p = none) (a5 : G p = none) (a6 : S = some (.lst p)) (a7 : ∀ (j : Nat) (es : List D), j ≠ i → env[j]? = some (.ln es) → False)
    (a8 : ∀ (j : Nat) (es : List D) (q : Addr), env[j]? = some (.ow es) → σ[j]? = some (some (.ref q)) → q ≠ p) : RSG K S He Ge G σ H (env.set i (.ln ds)) := by
  refine ⟨h.x, ?_, fun j es z => ?_, fun j b2 k2 gs z => ?_, h.s, fun j es z => ?_⟩
  · have z := h.e.setX (z := .ln ds) (i := i) (o := some (.ref p)) (by intro d z; cases z)
    rw [set_noop c] at z
    exact z
  · obtain ⟨_, z⟩ := ow_set (by intro z; cases z) z
    obtain ⟨p2, vs2, b1, b2, b3, b4, b5, b6⟩ := h.o j es z
    refine ⟨p2, vs2, b1, b2, b3, b4, b5, fun j2 es2 q2 n2 e2 c2 => ?_⟩
    obtain ⟨_, e2⟩ := ow_set (by intro z; cases z) e2
    exact b6 j2 es2 q2 n2 e2 c2
  · obtain ⟨_, z⟩ := ob_set (by intro z; cases z) z
    obtain ⟨p2, dx2, vs2, b1, b2, b3, b4, b5, b7, b6⟩ := h.b j b2 k2 gs z
    refine ⟨p2, dx2, vs2, b1, b2, b3, b4, b5, b7, fun j2 b3 k3 gs3 q2 n2 e2 c2 => ?_⟩
    obtain ⟨_, e2⟩ := ob_set (by intro z; cases z) e2
    exact b6 j2 b3 k3 gs3 q2 n2 e2 c2
  · by_cases y : i = j
    · subst y
      rw [List.getElem?_set_self hi] at z
      cases z
      refine ⟨p, vs, c, a2, a3, a4, a5, a6, fun j2 es2 n2 e2 => ?_, fun j2 es2 q2 e2 d2 => ?_⟩
      · rw [List.getElem?_set_ne (Ne.symm n2)] at e2
        exact a7 j2 es2 n2 e2
      · obtain ⟨_, e2⟩ := ow_set (by intro z; cases z) e2
        exact a8 j2 es2 q2 e2 d2
    · rw [List.getElem?_set_ne y] at z
      exact (a7 j es (Ne.symm y) z).elim
/-- a lent list is changed -/
theorem RSG.lnU {i : Nat} {p : Addr} {vs ws : List V} {ds gs : List D} (h : RSG K S He Ge G σ H env) (q : env[i]? = some (.ln ds)) (c : σ[i]? = some (some (.ref p))) (a1 : H p = some (.lst vs)) (e : Ext (del H p) G (del H1 p) G1)
    (a2 : H1 p = some (.lst ws)) (a3 : DpAll K G1 ws gs) (a5 : G1 p = none) : RSG K S He Ge G1 σ H1 (env.set i (.ln gs)) := by
  obtain ⟨p0, vs0, c1, c2, c3, c4, c5, c6, c7, c8⟩ := h.l i ds q
  rw [c] at c1
  cases c1
  have hne : ∀ (b : Addr) (o : HO), He b = some o → b ≠ p := fun b o z => ne_of_none z c4
  have h1 : RSG K S He Ge G1 σ H1 (env.set i .no) := (h.forget c).move ⟨fun b o z => (del_some (e.a b o (by rw [del_ne (hne b o z)]; exact h.x.a b o z))).2, h.x.b.trans e.b, fun b o z => (del_some (e.c b o z)).2, fun b o z n => e.d b o (by rw [del_ne (hne b o z)]; exact h.x.a b o z) (h.x.d b o z n)⟩ e.b fun p' u => by
    obtain ⟨⟨o, ho⟩, u2, u3⟩ := (h.forget c).us u
    have n := h.us_ln q c u
    exact ⟨by rw [(del_some (e.a p' o (by rw [del_ne n]; exact ho))).2, ho], u2, e.d p' o (by rw [del_ne n]; exact ho) u3⟩
  have h2 := h1.setL (i := i) (by rw [List.length_set]; exact lt_of_get q) c a2 a3 c4 a5 c6 (fun j es n e => by
    rw [List.getElem?_set_ne (Ne.symm n)] at e
    exact c7 j es n e) (fun j es q2 e2 d2 => by
    obtain ⟨_, e2⟩ := ow_set (by intro z; cases z) e2
    exact c8 j es q2 e2 d2)
  rw [List.set_set] at h2
  exact h2
/-- a lent list is looked at -/
theorem RSG.seeLn {i : Nat} {ds : List D} (h : RSG K S He Ge G σ H env) (q : env[i]? = some (.ln ds)) : ∃ p vs, S = some (.lst p) ∧ σ[i]? = some (some (.ref p)) ∧ H p = some (.lst vs) ∧ DpAll K G vs ds ∧ G p = none ∧ RSG K S He Ge (L2.upd G p (.lst vs)) σ H (env.set i (.fr (.list ds))) := by
  obtain ⟨p, vs, c1, c2, c3, c4, c5, c6, c7, c8⟩ := h.l i ds q
  have s1 : Same G (L2.upd G p (.lst vs)) := Same.upd c5
  have h1 : RSG K S He Ge (L2.upd G p (.lst vs)) σ H (env.set i .no) := (h.forget c1).move ⟨h.x.a, h.x.b.trans s1, fun b o e => by
      by_cases z : b = p
      · subst z; rw [upd_same] at e; cases e; exact c2
      · rw [upd_ne z] at e; exact h.x.c b o e, fun b o e n => by rw [upd_ne (ne_of_none e c4)]; exact h.x.d b o e n⟩ s1 fun p' u => by
    obtain ⟨⟨o, ho⟩, u2, u3⟩ := (h.forget c1).us u
    exact ⟨rfl, u2, by rw [upd_ne (h.us_ln q c1 u)]; exact u3⟩
  refine ⟨p, vs, c6, c1, c2, c3, c5, ?_⟩
  have z := h1.set (i := i) (v := .ref p) (d := .list ds) (.lst (SqL.of upd_same) (dpAll_mono s1 c3))
  rw [set_noop c1, List.set_set] at z
  exact z
/-! while an expression runs objects stand still -/
def isIns : Option HO → Bool
  | some (.ins _ _ _) => true
  | some (.dK _) => true
  | _ => false
def nonIns (o : HO) : Bool := match o with | .ins _ _ _ => false | .dK _ => false | _ => true
theorem isIns_of {o : HO} : isIns (some o) = true → nonIns o = true → False := by
  cases o <;> intro h z <;> first | (cases h; done) | (cases z; done)
theorem rg_ins {k : Nat} {p dx : Addr} {vs : List V} {fs : List D} (hp : H p = some (insO K k dx vs)) (f : FlR K G H k vs fs) : ∀ r ∈ rg H k p, isIns (H r) = true := by
  intro r hr
  cases n : isDk k with
  | true =>
    obtain ⟨a, b, c⟩ := f.dk n
    rw [rg_dk hp n c] at hr
    rcases List.mem_cons.mp hr with e | e
    · rw [e, hp]; rfl
    · obtain ⟨kvs, hk⟩ := dk_ref a r e
      rw [hk]; rfl
  | false =>
    rw [rg_one n] at hr
    rw [List.mem_singleton.mp hr, hp]; rfl
def frzH (G H : Hp) : Hp := fun b => match G b with
  | some o => some o
  | none => if isIns (H b) = true then H b else none
def thwH (G H G1 : Hp) : Hp := fun b => if G b = none ∧ isIns (H b) = true then none else G1 b
theorem thw_some {G H G1 : Hp} {b : Addr} {o : HO} (h : thwH G H G1 b = some o) : G1 b = some o := by
  unfold thwH at h
  split at h
  · cases h
  · exact h
structure Frz (K : PySem.W.Frag) (G H G2 : Hp) : Prop where
  s : Same G G2
  t : Same G2 H
  th : ∀ H1 G1, Ext H G2 H1 G1 → ∃ G3, Ext H G H1 G3 ∧ SameD G1 G3 ∧ Same G3 G1
theorem frz_of {G H : Hp} (s : Same G H) : Frz K G H (frzH G H) := by
  have s1 : Same G (frzH G H) := fun b o h => by unfold frzH; rw [h]
  have s2 : Same (frzH G H) H := fun b o h => by
    unfold frzH at h
    cases q : G b with
    | some o2 => rw [q] at h; cases h; exact s b o q
    | none =>
      rw [q] at h
      dsimp only at h
      split at h
      · exact h
      · cases h
  refine ⟨s1, s2, fun H1 G1 e => ⟨thwH G H G1, ⟨e.a, fun b o h => ?_, fun b o h => e.c b o (thw_some h), fun b o h n => ?_⟩, fun b o h ni => ?_, fun b o h => thw_some h⟩⟩
  · unfold thwH
    rw [if_neg (by rw [h]; exact fun z => by cases z.1)]
    exact e.b b o (s1 b o h)
  · unfold thwH
    by_cases c : isIns (H b) = true
    · rw [if_pos ⟨n, c⟩]
    · rw [if_neg fun z => c z.2]
      refine e.d b o h ?_
      unfold frzH
      rw [n]
      exact if_neg c
  · unfold thwH
    by_cases c : G b = none ∧ isIns (H b) = true
    · exfalso
      obtain ⟨c1, c2⟩ := c
      have z : frzH G H b = H b := by
        unfold frzH
        rw [c1]
        exact if_pos c2
      cases c3 : H b with
      | none => rw [c3] at c2; cases c2
      | some o2 =>
        rw [c3] at c2
        have y := e.b b _ (z.trans c3)
        rw [h] at y
        cases y
        exact isIns_of c2 ni
    · rw [if_neg c]; exact h
theorem RSG.frz (h : RSG K S He Ge G σ H env) : ∃ G2, Frz K G H G2 ∧ EnvR K G2 σ env := by
  refine ⟨frzH G H, frz_of h.x.c, h.e.mono (frz_of (K := K) h.x.c).s, fun i b k fs q => ?_⟩
  obtain ⟨p, dx, vs, a1, a2, a3, a4, a5, _⟩ := h.b i b k fs q
  have key : ∀ r ∈ rg H k p, frzH G H r = H r := fun r hr => by
    unfold frzH
    rw [a5 r hr]
    dsimp only
    rw [if_pos (rg_ins a2 a3 r hr)]
  exact ⟨p, dx, vs, a1, by rw [key p rg_self]; exact a2, a3.move a2 (frz_of (K := K) h.x.c).s fun r hr o ho => by rw [key r hr]; exact ho⟩
theorem Rs.frz {B : Str → Hp → Prop} {Q : VK} {r : R D} {G2 : Hp} (f : Frz K G H G2) (h : Rs K B H G Q r) : Rs K B H G2 Q r := by
  cases r with
  | ok d =>
    intro v H1 G1 e p
    obtain ⟨G3, e3, s3, _⟩ := f.th H1 G1 e
    exact h v H1 G3 e3 (dp_monoD s3 p)
  | exc c =>
    intro H1 G1 e
    obtain ⟨G3, e3, _⟩ := f.th H1 G1 e
    exact h H1 G3 e3
  | bad => exact h
theorem RsA.frz {B : Str → Hp → Prop} {Q : List V → Hp → Prop} {r : R (List D)} {G2 : Hp} (f : Frz K G H G2) (h : RsA K B H G Q r) : RsA K B H G2 Q r := by
  cases r with
  | ok d =>
    intro v H1 G1 e p
    obtain ⟨G3, e3, s3, _⟩ := f.th H1 G1 e
    exact h v H1 G3 e3 (dpAll_monoD s3 p)
  | exc c =>
    intro H1 G1 e
    obtain ⟨G3, e3, _⟩ := f.th H1 G1 e
    exact h H1 G3 e3
  | bad => exact h
theorem RsT.frz {B : Str → Hp → Prop} {Q : Bool → Hp → Prop} {r : R D} {G2 : Hp} (f : Frz K G H G2) (h : RsT B H G Q r) : RsT B H G2 Q r := by
  cases r with
  | ok d =>
    cases d with
    | bool b =>
      intro H1 G1 e
      obtain ⟨G3, e3, _⟩ := f.th H1 G1 e
      exact h H1 G3 e3
    | _ => exact h
  | exc c =>
    intro H1 G1 e
    obtain ⟨G3, e3, _⟩ := f.th H1 G1 e
    exact h H1 G3 e3
  | bad => exact h
theorem RsL.frz {B : Str → Hp → Prop} {Q : VK} {r : R D} {G2 : Hp} (f : Frz K G H G2) (h : RsL K B H G Q r) : RsL K B H G2 Q r := by
  cases r with
  | ok d =>
    cases d with
    | list ds =>
      intro p vs H1 G1 e h1 h2 h3 h4
      obtain ⟨G3, e3, s3, s4⟩ := f.th H1 G1 e
      refine h p vs H1 G3 e3 h1 ?_ h3 (dpAll_monoD s3 h4)
      cases z : G3 p with
      | none => rfl
      | some o => rw [s4 p o z] at h2; cases h2
    | _ => exact h
  | exc c =>
    intro H1 G1 e
    obtain ⟨G3, e3, _⟩ := f.th H1 G1 e
    exact h H1 G3 e3
  | bad => exact h
theorem RsI.frz {B : Str → Hp → Prop} {Q : L2.It → Hp → Prop} {r : R (List D)} {G2 : Hp} (f : Frz K G H G2) (h : RsI K B H G Q r) : RsI K B H G2 Q r := by
  cases r with
  | ok d =>
    intro J H1 G1 e w
    obtain ⟨G3, e3, s3, s4⟩ := f.th H1 G1 e
    exact h J H1 G3 e3 (w.back s3 s4)
  | exc c =>
    intro H1 G1 e
    obtain ⟨G3, e3, _⟩ := f.th H1 G1 e
    exact h H1 G3 e3
  | bad => exact h
theorem RSG.rd {Q : VK} {r : List Sl → R D} (h : RSG K S He Ge G σ H env) (m : Rs K (BX ca W σ) H G Q (r env)) : rdE K ca W r σ H Q := by
  obtain ⟨G2, f, e⟩ := h.frz
  exact ⟨env, G2, f.t, e, m.frz f⟩
theorem RSG.rdA {Q : List V → Hp → Prop} {r : List Sl → R (List D)} (h : RSG K S He Ge G σ H env) (m : RsA K (BX ca W σ) H G Q (r env)) : rdA K ca W r σ H Q := by
  obtain ⟨G2, f, e⟩ := h.frz
  exact ⟨env, G2, f.t, e, m.frz f⟩
theorem RSG.rdT {Q : Bool → Hp → Prop} {r : List Sl → R D} (h : RSG K S He Ge G σ H env) (m : RsT (BX ca W σ) H G Q (r env)) : rdT K ca W r σ H Q := by
  obtain ⟨G2, f, e⟩ := h.frz
  exact ⟨env, G2, f.t, e, m.frz f⟩
theorem RSG.rdL {Q : VK} {r : List Sl → R D} (h : RSG K S He Ge G σ H env) (m : RsL K (BX ca W σ) H G Q (r env)) : rdL K ca W r σ H Q := by
  obtain ⟨G2, f, e⟩ := h.frz
  exact ⟨env, G2, f.t, e, m.frz f⟩
theorem RSG.rdI {Q : L2.It → Hp → Prop} {r : List Sl → R (List D)} (h : RSG K S He Ge G σ H env) (m : RsI K (BX ca W σ) H G Q (r env)) : rdI K ca W r σ H Q := by
  obtain ⟨G2, f, e⟩ := h.frz
  exact ⟨env, G2, f.t, e, m.frz f⟩

/-! ### what is wanted behind a statement that ends so -/
/-- the answer of a def; of a def with something lent, what is left of that, too -/
def RetS (K : PySem.W.Frag) (S : Option Bor) (He Ge : Hp) (Dn : Ends) (d : D) : Prop := match S with
  | none => ∀ v H G, Ext He Ge H G → Dp K G v d → Dn.rt v H
  | some (.ins p dx k) => ∃ d0 fs, d = .tuple [d0, .tuple fs] ∧ ∀ v H G ws, Ext He Ge H G → H p = some (insO K k dx ws) → FlR K G H k ws fs → (∀ r ∈ rg H k p, G r = none) → (∀ r ∈ rg H k p, He r = none) → Dp K G v d0 → Dn.rt v H
  | some (.lst p) => ∃ d0 es, d = .tuple [d0, .list es] ∧ ∀ v H G ws, Ext He Ge H G → H p = some (.lst ws) → DpAll K G ws es → G p = none → Dp K G v d0 → Dn.rt v H
def OutS (K : PySem.W.Frag) (ca : Str → Value) (W : WX) (S : Option Bor) (He Ge : Hp) (D : Ends) : Out → Prop
  | .next e => ∀ σ H G, RSG K S He Ge G σ H e → D.nx σ H
  | .ret d => RetS K S He Ge D d
  | .brk e => ∀ σ H G, RSG K S He Ge G σ H e → D.bk σ H
  | .cont e => ∀ σ H G, RSG K S He Ge G σ H e → D.ct σ H
  | .exc c e => ∀ σ H G, RSG K S He Ge G σ H e → BX ca W σ c H
  | .bad => False
def rdS (K : PySem.W.Frag) (ca : Str → Value) (W : WX) (me : Bool) (r : List Sl → Out) : TS := fun D σ H => ∃ S He Ge G env, S.isSome = me ∧ RSG K S He Ge G σ H env ∧ OutS K ca W S He Ge D (r env)
theorem OutS.wid {D : Ends} {o : Out} (a : Ext He Ge H G) (h : OutS K ca W S He Ge D o) : OutS K ca W S He G D o := by
  cases o with
  | next e => exact fun σ H1 G1 r => h σ H1 G1 (r.wid a)
  | ret d =>
    cases S with
    | none => exact fun v H1 G1 r p => h v H1 G1 (a.wid r) p
    | some z =>
      cases z with
      | lst q =>
        obtain ⟨d0, es, e, n⟩ := h
        exact ⟨d0, es, e, fun v H1 G1 ws r h1 h2 h3 h4 => n v H1 G1 ws (a.wid r) h1 h2 h3 h4⟩
      | ins p dx k =>
        obtain ⟨d0, fs, e, n⟩ := h
        exact ⟨d0, fs, e, fun v H1 G1 ws r h1 h2 h3 h4 h5 => n v H1 G1 ws (a.wid r) h1 h2 h3 h4 h5⟩
  | brk e => exact fun σ H1 G1 r => h σ H1 G1 (r.wid a)
  | cont e => exact fun σ H1 G1 r => h σ H1 G1 (r.wid a)
  | exc c e => exact fun σ H1 G1 r => h σ H1 G1 (r.wid a)
  | bad => exact h

/-- an expression ahead -/
theorem on_ok {Dn : Ends} {r : R D} {f : D → Out} {N : V → Hp → Prop} (h : OutS K ca W S He Ge Dn (onR env r f)) (R0 : RSG K S He Ge G σ H env) (s : Same G G')
    (n : ∀ d v H1 G1, r = .ok d → Ext H G' H1 G1 → Dp K G1 v d → OutS K ca W S He Ge Dn (f d) → N v H1) : Rs K (BX ca W σ) H G' N r := by
  cases r with
  | ok d => exact fun v H1 G1 e p => n d v H1 G1 rfl e p h
  | exc c => exact fun H1 G1 e => h σ H1 G (R0.back s e)
  | bad => exact h
theorem on_okL {Dn : Ends} {r : R D} {f : D → Out} {N : VK} (h : OutS K ca W S He Ge Dn (onR env r f)) (R0 : RSG K S He Ge G σ H env) (s : Same G G') (hl : ∀ d, r = .ok d → ∃ l, d = .list l)
    (n : ∀ ds p vs H1 G1, r = .ok (.list ds) → Ext H G' H1 G1 → H p = none → G1 p = none → H1 p = some (.lst vs) → DpAll K G1 vs ds → OutS K ca W S He Ge Dn (f (.list ds)) → N (.ref p) H1) : RsL K (BX ca W σ) H G' N r := by
  cases r with
  | ok d =>
    obtain ⟨l, rfl⟩ := hl d rfl
    exact fun p vs H1 G1 e h1 h2 h3 h4 => n l p vs H1 G1 rfl e h1 h2 h3 h4 h
  | exc c => exact fun H1 G1 e => h σ H1 G (R0.back s e)
  | bad => exact h
theorem on_okT {Dn : Ends} {r : R D} {f : Bool → Out} {N : Bool → Hp → Prop} (h : OutS K ca W S He Ge Dn (onR env (toB r) f)) (R0 : RSG K S He Ge G σ H env) (s : Same G G')
    (n : ∀ b H1 G1, r = .ok (.bool b) → Ext H G' H1 G1 → OutS K ca W S He Ge Dn (f b) → N b H1) : RsT (BX ca W σ) H G' N r := by
  cases r with
  | ok d => cases d with
    | bool b => exact fun H1 G1 e => n b H1 G1 rfl e h
    | _ => exact h
  | exc c => exact fun H1 G1 e => h σ H1 G (R0.back s e)
  | bad => exact h
theorem flat_any {v : V} {d : D} {G G' : Hp} (h : Dp K G v d) (f : flatD d = true) : Dp K G' v d := by
  cases h with
  | non => exact .non
  | bl b => exact .bl b
  | int b => exact .int b
  | str b => exact .str b
  | _ => cases f

theorem PS.imp {X : Cx} {e : Stmt} {t t' : TS} (h : PS X e t) (i : ∀ D σ H, t' D σ H → t D σ H) : PS X e t' := ⟨fun pins s σ H Q I q => h.run pins s σ H Q I (i _ _ _ q)⟩
theorem PSs.imp {X : Cx} {e : List Stmt} {t t' : TS} (h : PSs X e t) (i : ∀ D σ H, t' D σ H → t D σ H) : PSs X e t' := ⟨fun pins s σ H Q I q => h.run pins s σ H Q I (i _ _ _ q)⟩

/-! ### targets over the whole state -/
theorem many_rs {Q : L2.St → Hp → Prop} : ∀ {l : List Nat} {ds : List D} {vs : List V} {σ : L2.St} {env e2 : List Sl}, RSG K S He Ge G σ H env → DpAll K G vs ds → setMany env l ds = .ok e2 → (∀ σ2, RSG K S He Ge G σ2 H e2 → Q σ2 H) → gMany l vs σ H Q
  | [], ds, vs, σ, env, e2, he, r, h, q => by
    cases r with
    | nil => cases h; exact ⟨rfl, q σ he⟩
    | cons _ _ => cases h
  | i :: l, ds, vs, σ, env, e2, he, r, h, q => by
    cases r with
    | nil => cases h
    | cons a b => exact ⟨_, _, rfl, many_rs (he.set a) b h q⟩
theorem setMany_len : ∀ {l : List Nat} {ds : List D} {env e2 : List Sl}, setMany env l ds = .ok e2 → ds.length = l.length
  | [], [], _, _, _ => rfl
  | [], _ :: _, _, _, h => by cases h
  | _ :: _, [], _, _, h => by cases h
  | i :: l, d :: ds, env, e2, h => by rw [List.length_cons, List.length_cons, setMany_len (l := l) (ds := ds) h]
theorem gT_rs {Q : L2.St → Hp → Prop} {t : Tg} {d : D} {v : V} {e2 : List Sl} (he : RSG K S He Ge G σ H env) (r : Dp K G v d) (h : setT env t d = .ok e2) (q : ∀ σ2, RSG K S He Ge G σ2 H e2 → Q σ2 H) : gT K t v σ H Q := by
  cases t with
  | one i => cases h; exact q _ (he.set r)
  | many l =>
    cases r with
    | tup q0 r0 => exact ⟨_, _, rfl, Same.seqT he.x.c q0, by rw [dpAll_len r0, setMany_len h], many_rs he r0 h q⟩
    | _ => cases h
end

/-! ### a def that tells an exception's word: its promise, of the exception that is handled -/
structure FnW (P : Program) (w : World) (K : PySem.W.Frag) (mg : Str → Option Value) (base : Heap) (CX : CXT) (k : Nat) (f : Addr) (fd : FuncData) (ps : List Str) (sp : Addr × Obj → Sp) : Prop where
  len : ∀ q vs H Q E, sp q vs H Q E → vs.length = ps.length
  go : ∀ (A : Around) (out : List Env) (s : Shared) (H : Hp) (args : Args) (us : List Value) (vs : List V) (Q : VK) (E : XK) (q : Addr × Obj), L2H.RoomH k A → L2H.Hot1 A q → L2H.PinOk out H s q → Env0 P w K mg base A out s H → BindsTo s fd args (ps.zip us) → Vals vs us → sp q vs H Q E →
    codeAny (model P w) A (.call (.ref f) args) (CR CX out P w H s Q E) s
/-- what is asked where more stands in the heap, too -/
def Grows (H H' : Hp) : Prop := ∀ p o, H p = some o → H' p = some o
/-- what a def tells of an exception -/
def wordV (k : Nat) (c : Str) : V := if isTr k = true then .bl (truW (wtab k) c) else .str (wordT k c)
theorem wordV_str {k : Nat} {c : Str} (h : isTr k = false) : wordV k c = .str (wordT k c) := if_neg (by rw [h]; exact Bool.false_ne_true)
theorem wordV_tr {k : Nat} {c : Str} (h : isTr k = true) : wordV k c = .bl (truW (wtab k) c) := if_pos h
def spW (ca : Str → Value) (k : Nat) : Addr × Obj → Sp := fun q vs H Q _ => ∃ c, vs = [.ref q.1] ∧ L2N.Zn (ca c) none q.2 ∧ (∃ vs, q.2.data = .fields vs) ∧ ∀ H', Grows H H' → Q (wordV k c) H'
end Cw

set_option Elab.async false
set_option linter.all false
set_option maxRecDepth 100000
set_option maxHeartbeats 4000000
namespace Cw
open PySem PySem.Spec PyProof.Rows L2

/-! ### what may change an object: the look -/
mutual
def chkM (g : Gm) : M → Lx → Expr → Bool
  | .e e, L, x => chkE g e L x
  | .mc i k f ms, L, x => (match x with
    | .Call (.Attribute (.Name y _) m ap) xs [] cp => decide (L.N[i]? = some y) && visB L y && decide (xs.length < 20) && (ap.endLine == cp.line) && g.clss.contains k && g.mths.contains (k, m, f) && !(clsF k).contains m && chkMs g ms L xs
    | _ => false)
  | .mx i k f ms, L, x => (match x with
    | .Call (.Attribute (.Name y _) m ap) xs [] cp => decide (L.N[i]? = some y) && visB L y && decide (xs.length < 20) && (ap.endLine == cp.line) && g.clss.contains k && g.mths.contains (k, m, f) && !(clsF k).contains m && chkMs g ms L xs
    | _ => false)
  | .mk k f as h bs, L, x => (match x with
    | .Call (.Attribute (.Call (.Name y _) (xa :: xs) [] _) m ap) (xb :: ys) [] pos => decide (y = clsN k) && glB L y && g.clss.contains k && g.inis.contains (k, f) && g.mths.contains (k, m, h) && !(clsF k).contains m && chkEs g as L (xa :: xs) && chkEs g bs L (xb :: ys) && decide ((xb :: ys).length < 20) && (ap.endLine == pos.line)
    | _ => false)
  | .tup ms, L, x => (match x with
    | .Tuple xs _ _ => chkMs g ms L xs && decide (xs.length ≤ 1000)
    | _ => false)
  | .not m, L, x => (match x with
    | .UnaryOp .Not xa _ => chkM g m L xa
    | _ => false)
  | .and a b, L, x => (match x with
    | .BoolOp .And [xa, xb] _ => chkM g a L xa && chkM g b L xb
    | _ => false)
  | .or a b, L, x => (match x with
    | .BoolOp .Or [xa, xb] _ => chkM g a L xa && chkM g b L xb
    | _ => false)
  | .cl i f a, L, x => (match x with
    | .Call (.Name y _) [xa, .Name z _] [] _ => glB L y && g.lfs.contains (y, f) && decide (L.N[i]? = some z) && visB L z && chkE g a L xa
    | _ => false)
  | .cmp o m e, L, x => (match x with
    | .Compare xa [op] [xb] _ => decide (op = cmOf o) && notSet xb && chkM g m L xa && chkE g e L xb
    | _ => false)
  | .ind m j, L, x => (match x with
    | .Compare xa [op] [.Name y _] _ => decide (op = .In) && glB L y && g.dvs.contains (y, j) && chkM g m L xa
    | _ => false)
  | .call f ms, L, x => (match x with
    | .Call (.Name y _) (xe :: xs) [] _ => glB L y && g.fns.contains (y, f) && chkMs g ms L (xe :: xs)
    | _ => false)
  | .bf f ms, L, x => (match x with
    | .Call (.Name y _) (xe :: xs) [] _ => decide (y = bfName f) && glB L y && chkMs g ms L (xe :: xs)
    | _ => false)
  | .lcm i m it, L, x => (match x with
    | .ListComp xe [⟨xt, xi, [], as⟩] scope _ => L.top && decide (as = 0) && decide ((ownN L.N [i]).map (·.2) = [i]) && blkC L.N L.sc scope (ownN L.N [i]) && chkT (inL L scope) (.one i) xt
        && chkI g it L (.one i) xi && chkM g m (inL L scope) xe
    | _ => false)
def chkMs (g : Gm) : Ms → Lx → List Expr → Bool
  | .nil, _, x => x.isEmpty
  | .cons e es, L, x => (match x with
    | x :: xs => chkM g e L x && chkMs g es L xs
    | _ => false)
end

/-! ### readings -/
section
variable {S : Option Bor} {K : PySem.W.Frag} {ca : Str → Value} {W : WX} {X : Cx} {He Ge G G' H H1 G1 : Hp} {σ : L2.St} {env : List Sl}
def RsM {A B : Type} (K : PySem.W.Frag) (ca : Str → Value) (W : WX) (S : Option Bor) (He Ge : Hp) (σ : L2.St) (G : Hp) (P : Hp → B → A → Prop) (Q : B → Hp → Prop) : RM A → Prop
  | .ok d e => ∀ v H' G', RSG K S He Ge G' σ H' e → Same G G' → P G' v d → Q v H'
  | .exc c e => ∀ H' G', RSG K S He Ge G' σ H' e → BX ca W σ c H'
  | .bad => False
/-- a truth -/
def TrB (_ : Hp) (b : Bool) (d : D) : Prop := d = .bool b
theorem RsM.step {A B : Type} {P : Hp → B → A → Prop} {Q : B → Hp → Prop} {r : RM A} (h : RsM K ca W S He Ge σ G P Q r) (s : Same G G') : RsM K ca W S He Ge σ G' P Q r := by
  cases r with
  | ok d e => exact fun v H2 G2 r s2 p => h v H2 G2 r (s.trans s2) p
  | exc c e => exact h
  | bad => exact h
theorem RsM.bind {A B A' B' : Type} {P : Hp → B → A → Prop} {P' : Hp → B' → A' → Prop} {Q : B → Hp → Prop} {N : B' → Hp → Prop} {r : RM A'} {f : A' → List Sl → RM A} (h : RsM K ca W S He Ge σ G P Q (r.bind f))
    (n : ∀ d e v H' G', r = .ok d e → RSG K S He Ge G' σ H' e → Same G G' → P' G' v d → RsM K ca W S He Ge σ G' P Q (f d e) → N v H') : RsM K ca W S He Ge σ G P' N r := by
  cases r with
  | ok d e => exact fun v H' G' r s p => n d e v H' G' rfl r s p (RsM.step h s)
  | exc c e => exact h
  | bad => exact h
def rdM (K : PySem.W.Frag) (ca : Str → Value) (W : WX) (r : List Sl → RM D) : TE := fun σ H Q => ∃ S He Ge G env, RSG K S He Ge G σ H env ∧ RsM K ca W S He Ge σ G (Dp K) Q (r env)
def rdMs (K : PySem.W.Frag) (ca : Str → Value) (W : WX) (r : List Sl → RM (List D)) : TA := fun σ H Q => ∃ S He Ge G env, RSG K S He Ge G σ H env ∧ RsM K ca W S He Ge σ G (DpAll K) Q (r env)
def rdMT (K : PySem.W.Frag) (ca : Str → Value) (W : WX) (r : List Sl → RM D) : TT := fun σ H Q => ∃ S He Ge G env, RSG K S He Ge G σ H env ∧ RsM K ca W S He Ge σ G TrB Q (r env) ∧ ∀ d e, r env = .ok d e → ∃ b, d = .bool b
structure BothM (X : Cx) (ca : Str → Value) (W : WX) (e : Expr) (r : List Sl → RM D) : Prop where
  pe : PE X e (rdM X.K ca W r)
  pt : PT X e (rdMT X.K ca W r)
theorem rdMT_val {r : List Sl → RM D} {H : Hp} {Q : Bool → Hp → Prop} (h : rdMT K ca W r σ H Q) : rdM K ca W r σ H fun x H1 => ∃ c, x = .bl c ∧ Q c H1 := by
  obtain ⟨S, He, Ge, G, env, R, hm, hb⟩ := h
  refine ⟨S, He, Ge, G, env, R, ?_⟩
  cases ha : r env with
  | exc c e => rw [ha] at hm; exact hm
  | bad => rw [ha] at hm; exact hm
  | ok d e =>
    rw [ha] at hm
    obtain ⟨b, rfl⟩ := hb d e ha
    intro v H' G' R' s p
    cases p
    exact ⟨b, rfl, hm b H' G' R' s rfl⟩
theorem bothM_val {e : Expr} {r : List Sl → RM D} (h : PE X e (rdM X.K ca W r)) (he : ∀ whole, isTrue e X.env whole = (do let v ← whole; standAt e.pos; holding [v] (truthy v))) : BothM X ca W e r :=
  ⟨h, PT.imp (pt_val h he) fun _ _ _ q => rdMT_val q⟩
/-- a plain expression -/
theorem m_e {e : Expr} {r : List Sl → R D} (h : Both X ca W e r) : BothM X ca W e (fun env => liftM env (r env)) := by
  refine ⟨PE.imp h.pe fun σ H Q ⟨S, He, Ge, G, env, R, hm⟩ => R.rd ?_, PT.imp h.pt fun σ H Q ⟨S, He, Ge, G, env, R, hm, hb⟩ => R.rdT ?_⟩
  · dsimp only at hm ⊢
    cases ha : r env with
    | ok d => rw [ha] at hm; exact fun v H1 G1 e p => hm v H1 G1 (R.ext e) e.b p
    | exc c => rw [ha] at hm; exact fun H1 G1 e => hm H1 G1 (R.ext e)
    | bad => rw [ha] at hm; exact hm
  · dsimp only at hm hb ⊢
    cases ha : r env with
    | ok d =>
      rw [ha] at hm
      obtain ⟨b, rfl⟩ := hb d env (by rw [ha]; rfl)
      exact fun H1 G1 e => hm b H1 G1 (R.ext e) e.b rfl
    | exc c => rw [ha] at hm; exact fun H1 G1 e => hm H1 G1 (R.ext e)
    | bad => rw [ha] at hm; exact hm
/-- plain arguments -/
theorem m_es {es : List Expr} {r : List Sl → R (List D)} (h : PA X es (rdA X.K ca W r)) : PA X es (rdMs X.K ca W fun env => liftM env (r env)) :=
  PA.imp h fun σ H Q ⟨S, He, Ge, G, env, R, hm⟩ => R.rdA (by
    dsimp only at hm ⊢
    cases ha : r env with
    | ok d => rw [ha] at hm; exact fun v H1 G1 e p => hm v H1 G1 (R.ext e) e.b p
    | exc c => rw [ha] at hm; exact fun H1 G1 e => hm H1 G1 (R.ext e)
    | bad => rw [ha] at hm; exact hm)
theorem m_nil : PA X [] (rdMs X.K ca W fun env => .ok [] env) := PA.imp pa_nil fun σ H Q ⟨S, He, Ge, G, env, R, hm⟩ => hm [] H G R (Same.refl _) .nil
theorem m_cons {e : Expr} {es : List Expr} {ra : List Sl → RM D} {rb : List Sl → RM (List D)} (n : notStar e = true) (ha : PE X e (rdM X.K ca W ra)) (hb : PA X es (rdMs X.K ca W rb)) :
    PA X (e :: es) (rdMs X.K ca W fun env => (ra env).bind fun d e => (rb e).bind fun ds e => .ok (d :: ds) e) :=
  PA.imp (pa_cons ha hb (star_cons n)) fun σ H Q ⟨S, He, Ge, G, env, R, hm⟩ => ⟨S, He, Ge, G, env, R, RsM.bind hm fun d e v H1 G1 _ R1 s1 p1 hm1 =>
    ⟨S, He, Ge, G1, e, R1, RsM.bind hm1 fun ds e2 vs H2 G2 _ R2 s2 p2 hm2 => hm2 (v :: vs) H2 G2 R2 (Same.refl _) (.cons (dp_mono s2 p1) p2)⟩⟩
theorem RSG.newT {p : Addr} {vs : List V} (h : RSG K S He Ge G σ H env) (hp : H p = none) : RSG K S He Ge (L2.upd G p (.tup vs)) σ (L2.upd H p (.tup vs)) env := h.ext (Ext.new h.x.c hp)
theorem m_tup {es : List Expr} {k : Nat} {pos : Pos} {r : List Sl → RM (List D)} (h : PA X es (rdMs X.K ca W r)) (hl : es.length ≤ 1000) (hn : ∀ env ds e, r env = .ok ds e → ds.length = es.length) :
    PE X (.Tuple es k pos) (rdM X.K ca W fun env => (r env).bind fun ds e => .ok (.tuple ds) e) :=
  PE.imp (pe_tup h) fun σ H Q ⟨S, He, Ge, G, env, R, hm⟩ => ⟨S, He, Ge, G, env, R, RsM.bind hm fun ds e vs H1 G1 er R1 s1 p hm1 => by
    refine ⟨by rw [dpAll_len p, hn env ds e er, sizeLine_eq]; omega, fun q hq => ?_⟩
    exact hm1 (.ref q) _ _ (R1.newT hq) (Same.upd (R1.x.c.free hq)) (.tup (SqT.of upd_same) (dpAll_mono (Same.upd (R1.x.c.free hq)) p))⟩
theorem m_not {a : Expr} {pos : Pos} {ra : List Sl → RM D} (ha : BothM X ca W a ra) : BothM X ca W (.UnaryOp .Not a pos) (fun env => (ra env).bind fun d e => match d with | .bool b => .ok (.bool (!b)) e | _ => .bad) := by
  refine ⟨PE.imp (pe_not ha.pe) fun σ H Q ⟨S, He, Ge, G, env, R, hm⟩ => ⟨S, He, Ge, G, env, R, RsM.bind hm fun d e v H1 G1 _ R1 s1 p hm1 => ?_⟩, PT.imp (pt_not ha.pt) fun σ H Q ⟨S, He, Ge, G, env, R, hm, hb⟩ => ⟨S, He, Ge, G, env, R, RsM.bind hm fun d e v H1 G1 _ R1 s1 p hm1 => ?_, fun d e q => ?_⟩⟩
  · cases p with
    | bl i => exact ⟨i, rfl, hm1 (.bl _) H1 G1 R1 (Same.refl _) (.bl _)⟩
    | _ => exact hm1.elim
  · cases p
    exact hm1 _ H1 G1 R1 (Same.refl _) rfl
  · cases d with
    | bool b => exact ⟨b, rfl⟩
    | _ =>
      dsimp only at hm
      rw [q] at hm
      exact hm.elim
theorem m_and {a b : Expr} {pos : Pos} {ra rb : List Sl → RM D} (ha : BothM X ca W a ra) (hb : BothM X ca W b rb) :
    BothM X ca W (.BoolOp .And [a, b] pos) (fun env => (ra env).bind fun d e => match d with | .bool true => rb e | .bool false => .ok (.bool false) e | _ => .bad) := by
  refine ⟨PE.imp (pe_and ha.pe (pe_one hb.pe)) fun σ H Q ⟨S, He, Ge, G, env, R, hm⟩ => ⟨S, He, Ge, G, env, R, RsM.bind hm fun d e v H1 G1 _ R1 s1 p hm1 => ?_⟩, PT.imp (PW.pt (pw_and ha.pt (pw_and1 hb.pt))) fun σ H Q ⟨S, He, Ge, G, env, R, hm, hbb⟩ => ⟨S, He, Ge, G, env, R, RsM.bind hm fun d e v H1 G1 er R1 s1 p hm1 => ?_, fun d e q => ?_⟩⟩
  · cases p with
    | bl i =>
      refine ⟨i, rfl, ?_⟩
      cases i with
      | true => rw [if_pos rfl]; exact ⟨S, He, Ge, G1, e, R1, hm1⟩
      | false => rw [if_neg Bool.false_ne_true]; exact hm1 (.bl _) H1 G1 R1 (Same.refl _) (.bl _)
    | _ => exact hm1.elim
  · cases p
    cases v with
    | true =>
      rw [if_pos rfl]
      refine ⟨S, He, Ge, G1, e, R1, hm1, fun d2 e2 q2 => ?_⟩
      refine hbb d2 e2 ?_
      show (ra env).bind _ = _
      rw [er]
      exact q2
    | false => rw [if_neg Bool.false_ne_true]; exact hm1 _ H1 G1 R1 (Same.refl _) rfl
  · cases d with
    | bool b => exact ⟨b, rfl⟩
    | _ =>
      dsimp only at hm
      rw [q] at hm
      exact hm.elim

theorem m_or {a b : Expr} {pos : Pos} {ra rb : List Sl → RM D} (ha : BothM X ca W a ra) (hb : BothM X ca W b rb) :
    BothM X ca W (.BoolOp .Or [a, b] pos) (fun env => (ra env).bind fun d e => match d with | .bool true => .ok (.bool true) e | .bool false => rb e | _ => .bad) := by
  refine ⟨PE.imp (pe_or ha.pe (pe_one hb.pe)) fun σ H Q ⟨S, He, Ge, G, env, R, hm⟩ => ⟨S, He, Ge, G, env, R, RsM.bind hm fun d e v H1 G1 _ R1 s1 p hm1 => ?_⟩, PT.imp (PW.pt (pw_or ha.pt (pw_or1 hb.pt))) fun σ H Q ⟨S, He, Ge, G, env, R, hm, hbb⟩ => ⟨S, He, Ge, G, env, R, RsM.bind hm fun d e v H1 G1 er R1 s1 p hm1 => ?_, fun d e q => ?_⟩⟩
  · cases p with
    | bl i =>
      refine ⟨i, rfl, ?_⟩
      cases i with
      | true => rw [if_pos rfl]; exact hm1 (.bl _) H1 G1 R1 (Same.refl _) (.bl _)
      | false => rw [if_neg Bool.false_ne_true]; exact ⟨S, He, Ge, G1, e, R1, hm1⟩
    | _ => exact hm1.elim
  · cases p
    cases v with
    | false =>
      rw [if_neg Bool.false_ne_true]
      refine ⟨S, He, Ge, G1, e, R1, hm1, fun d2 e2 q2 => ?_⟩
      refine hbb d2 e2 ?_
      show (ra env).bind _ = _
      rw [er]
      exact q2
    | true => rw [if_pos rfl]; exact hm1 _ H1 G1 R1 (Same.refl _) rfl
  · cases d with
    | bool b => exact ⟨b, rfl⟩
    | _ =>
      dsimp only at hm
      rw [q] at hm
      exact hm.elim

theorem RsM.lift {Q : VK} {r : R D} {e : List Sl} (R : RSG K S He Ge G σ H e) (h : RsM K ca W S He Ge σ G (Dp K) Q (liftM e r)) : Rs K (BX ca W σ) H G Q r := by
  cases r with
  | ok d => exact fun v H1 G1 x p => h v H1 G1 (R.ext x) x.b p
  | exc c => exact fun H1 G1 x => h H1 G1 (R.ext x)
  | bad => exact h
theorem RsM.liftB {Q : VK} {N : V → Hp → Prop} {r : R D} {f : D → R D} {e : List Sl} (R : RSG K S He Ge G σ H e) (h : RsM K ca W S He Ge σ G (Dp K) Q ((liftM e r).bind fun y e2 => liftM e2 (f y)))
    (n : ∀ y u H1 G1, Ext H G H1 G1 → Dp K G1 u y → Rs K (BX ca W σ) H1 G1 Q (f y) → N u H1) : Rs K (BX ca W σ) H G N r := by
  cases r with
  | ok d => exact fun v H1 G1 x p => n d v H1 G1 x p (RsM.lift (R.ext x) (RsM.step h x.b))
  | exc c => exact fun H1 G1 x => h H1 G1 (R.ext x)
  | bad => exact h
theorem m_cmp {a b : Expr} {o : Cm} {pos : Pos} {ra : List Sl → RM D} {rb : List Sl → R D} (hu : X.A.units + 65 < cLine) (hm0 : behindInMarks (cmOf o) b = false) (ha : PE X a (rdM X.K ca W ra)) (hb : PE X b (rdE X.K ca W rb)) :
    BothM X ca W (.Compare a [cmOf o] [b] pos) (fun env => (ra env).bind fun d e2 => (liftM e2 (rb e2)).bind fun y e3 => liftM e3 (cmR o d y)) := by
  obtain ⟨r, h1, h2⟩ := rule_cm hu o
  refine ⟨PE.imp (pe_cmpR h1 ha hb hm0) fun σ H Q ⟨S, He, Ge, G, env, R, hm⟩ => ⟨S, He, Ge, G, env, R, RsM.bind hm fun d e v H1 G1 _ R1 s1 p1 hm1 => R1.rd (RsM.liftB R1 hm1 fun y u H2 G2 x hy hm2 => h2 _ _ _ _ _ _ _ _ x.c (dp_mono x.b p1) hy hm2)⟩, ?_⟩
  exact PT.imp (pt_cmpR h1 ha hb hm0) fun σ H Q h => by
    obtain ⟨S, He, Ge, G, env, R, hm⟩ := rdMT_val h
    exact ⟨S, He, Ge, G, env, R, RsM.bind hm fun d e v H1 G1 _ R1 s1 p1 hm1 => R1.rd (RsM.liftB R1 hm1 fun y u H2 G2 x hy hm2 => h2 _ _ _ _ _ _ _ _ x.c (dp_mono x.b p1) hy hm2)⟩
theorem m_ind {a : Expr} {x : Str} {j : Nat} {p pos : Pos} {ra : List Sl → RM D} (Dc : DctV X x j) (hg : Gl X x) (hd : (x == ("__debug__" : Str)) = false) (ha : PE X a (rdM X.K ca W ra)) :
    BothM X ca W (.Compare a [.In] [.Name x p] pos) (fun env => (ra env).bind fun d e2 => liftM e2 (indR j d)) := by
  obtain ⟨d, es, m, h1, h2, h3⟩ := Dc.ex
  have hb : PE X (.Name x p) (tC (.ref d)) := pe_glob hg h1 rfl hd
  have key : ∀ (B : Str → Hp → Prop) (H1 G1 : Hp) (y : D) (v : V) (Q : VK), Same G1 H1 → Dp X.K G1 v y → Rs X.K B H1 G1 Q (indR j y) → ∃ (z : Str) (r : Option Value), v = .str z ∧ (V.ref d : V) = .ref d ∧ PySem.W.nsIn X.K d z = some r ∧ Q (.bl r.isSome) H1 := by
    intro B H1 G1 y v Q s hx hm
    cases hx with
    | str z =>
      obtain ⟨r, r1, r2, _⟩ := h3 z
      exact ⟨z, r, rfl, rfl, r1, by rw [r2]; exact Rs.now hm s (.bl _)⟩
    | _ => exact hm.elim
  refine ⟨PE.imp (pe_cmpR (op_in_kd h2) ha hb rfl) fun σ H Q ⟨S, He, Ge, G, env, R, hm⟩ => ⟨S, He, Ge, G, env, R, RsM.bind hm fun y e v H1 G1 _ R1 s1 p1 hm1 => key _ _ _ _ _ _ R1.x.c p1 (RsM.lift R1 hm1)⟩, ?_⟩
  exact PT.imp (pt_cmpR (op_in_kd h2) ha hb rfl) fun σ H Q h => by
    obtain ⟨S, He, Ge, G, env, R, hm⟩ := rdMT_val h
    exact ⟨S, He, Ge, G, env, R, RsM.bind hm fun y e v H1 G1 _ R1 s1 p1 hm1 => key _ _ _ _ _ _ R1.x.c p1 (RsM.lift R1 hm1)⟩

/-! ### methods -/
theorem zip_none {β : Type} : ∀ {l : List Str} {us : List β} {x : Str}, x ∉ l → (l.zip us).lookup x = none
  | [], us, x, _ => rfl
  | a :: l, [], x, _ => rfl
  | a :: l, v :: us, x, h => by
    have z : (x == a) = false := by
      cases q : (x == a) with
      | false => rfl
      | true => rw [eq_of_beq q] at h; exact (h List.mem_cons_self).elim
    rw [List.zip_cons_cons]
    simp only [List.lookup, z]
    exact zip_none fun y => h (List.mem_cons_of_mem _ y)
def tMethSD (C : Addr) (m : Str) (sp : Sp) (E : L2.St → XK) (ta : TE) (t : TA) : TE := fun σ H Q => ta σ H fun x H1 => ∃ a dx fs, x = .ref a ∧ H1 a = some (.ins C dx fs) ∧ fs.lookup m = none ∧
  t σ H1 fun vs H2 => sp (x :: vs) H2 Q (E σ)
theorem pe_methSD {CX : CXT} {k : Nat} {C f : Addr} {fd : FuncData} {ps : List Str} {m : Str} {sp : Sp} {E : L2.St → XK} {o e1 : Expr} {es : List Expr} {ta : TE} {t : TA} {apos pos : Pos} {pl : Sem Bool} (he : PE X o ta) (c : Cls X.K C) (hm : Meth X.K C m f)
    (F : FnOk X.prog X.w X.K X.mg X.base CX k f fd ps sp) (hr : Room k X.A) (hb : Binds X.K fd ps []) (hx : ∀ σ, PassesAt CX X σ (E σ)) (ha : PA X (e1 :: es) t) (hn1 : notStar e1 = true) (hn : es.all notStar = true)
    (ht : eval (.Call (.Attribute o m apos) (e1 :: es) [] pos) X.env = (do
      let ov ← eval o X.env
      standAt apos.atName
      let (f, first) ← holding [ov] (getMethod ov m pl)
      callWith pos f first (backTo pos (starEach (e1 :: es) X.env)) (backToKw pos (keywordEach [] X.env)))) :
    PE X (.Call (.Attribute o m apos) (e1 :: es) [] pos) (tMethSD C m sp E ta t) := by
  refine ⟨fun pins s σ H Q I h => ?_⟩
  refine PySem.W.methodCall_KW (pl := pl) (thn (he.run pins s σ H _ I h) fun u s1 ⟨x, H1, I1, rx, a, dx, fs, ex, ea, l, q⟩ => ?_) ht
  subst ex
  obtain rfl : u = Value.ref a := rx
  refine getmeth_ok I1 ea c hm l ?_
  refine PySem.W.callWith_K (first := [.ref a]) (h₀ := X.base) I.ok.mod.kin hm.kp (thn (ha.run pos pins s1 σ H1 _ I1 q) fun us s2 ⟨vs, H2, I2, r, q2⟩ => ⟨I2.kIn, ?_⟩) (star_cons hn1) (star_none hn)
  exact run_fnS (us := .ref a :: us) (vs := .ref a :: vs) F hr hb (hx σ) I2 (.cons rfl r) q2
theorem pe_methSD0 {CX : CXT} {k : Nat} {C f : Addr} {fd : FuncData} {ps : List Str} {m : Str} {sp : Sp} {E : L2.St → XK} {o : Expr} {ta : TE} {apos pos : Pos} {pl : Sem Bool} (he : PE X o ta) (c : Cls X.K C) (hm : Meth X.K C m f)
    (F : FnOk X.prog X.w X.K X.mg X.base CX k f fd ps sp) (hr : Room k X.A) (hb : Binds X.K fd ps []) (hx : ∀ σ, PassesAt CX X σ (E σ))
    (ht : eval (.Call (.Attribute o m apos) [] [] pos) X.env = (do
      let ov ← eval o X.env
      standAt apos.atName
      let (f, first) ← holding [ov] (getMethod ov m pl)
      callWith pos f first (backTo pos (starEach [] X.env)) (backToKw pos (keywordEach [] X.env)))) :
    PE X (.Call (.Attribute o m apos) [] [] pos) (tMethSD C m sp E ta tNil) := by
  refine ⟨fun pins s σ H Q I h => ?_⟩
  refine PySem.W.methodCall_KW (pl := pl) (thn (he.run pins s σ H _ I h) fun u s1 ⟨x, H1, I1, rx, a, dx, fs, ex, ea, l, q⟩ => ?_) ht
  subst ex
  obtain rfl : u = Value.ref a := rx
  refine getmeth_ok I1 ea c hm l ?_
  exact PySem.W.callWith_K0 (first := [.ref a]) I1.kIn hm.kp (run_fnS (us := [.ref a]) (vs := [.ref a]) F hr hb (hx σ) I1 (.cons rfl .nil) q)
theorem hasO_some {env : List Sl} {i k : Nat} (h : hasO env i k = true) : ∃ b fs, env[i]? = some (.ob b k fs) := by
  unfold hasO at h
  split at h
  · rename_i b k' fs e
    rw [decide_eq_true_eq] at h
    subst h
    exact ⟨_, _, e⟩
  · cases h
theorem metO_ok' {r : R D} {d : D} {fs : List D} (h : metO r = .ok (d, fs)) : metX r = .ok d fs := by
  unfold metO at h
  split at h
  · cases h; rfl
  · cases h
  · cases h
theorem metO_exc' {r : R D} {c : Str} (h : metO r = .exc c) : metX r = .bad := by
  unfold metO at h
  split at h
  · cases h
  · rfl
  · cases h
/-- the method's own call -/
theorem call_rd {T : Nat → Option Def} {n i k f : Nat} {Q : VK} {e : List Sl} {ds : List D} {vs : List V} {x : V} (R : RSG K S He Ge G σ H e) (p : DpAll K G vs ds) (hx : σ[i]? = some (some x))
    (m : RsM K ca W S He Ge σ G (Dp K) Q (callM (evc T n) e i k f ds)) : spM T ca K n f k (x :: vs) H Q (WE W σ) := by
  unfold callM at m
  split at m
  · rename_i b k' fs q
    split at m
    · rename_i hk
      subst hk
      obtain ⟨p0, dx, ws, c1, c2, c3, c4, c5, c6, c7⟩ := R.b i b k' fs q
      rw [hx] at c1
      cases c1
      refine ⟨p0, dx, ws, fs, vs, ds, G, rfl, c2, c3, c5, R.x.c, p, RsY.of (fun e => by rw [e] at m; exact m) ?_⟩
      cases er : metO (evc T n f (.tuple fs :: ds)) with
      | ok r =>
        rw [er] at m
        exact fun v H' G' ws' e1 h1 h2 h3 h4 => m v H' G' (R.obU q hx c2 e1 h1 h2 h3) e1.b h4
      | exc c =>
        rw [er] at m
        exact fun H' G' ws' e1 g1 g2 => m H' G' (R.obX q hx c2 e1 g1 g2)
      | bad => rw [er] at m; exact m
    · exact m.elim
  · exact m.elim
/-- the call of a method of a class that keeps -/
theorem callX_rd {T : Nat → Option Def} {n i k f : Nat} {Q : VK} {e : List Sl} {ds : List D} {vs : List V} {x : V} (R : RSG K S He Ge G σ H e) (p : DpAll K G vs ds) (hx : σ[i]? = some (some x))
    (m : RsM K ca W S He Ge σ G (Dp K) Q (callX (evc T n) e i k f ds)) : spM T ca K n f k (x :: vs) H Q (WE W σ) := by
  unfold callX at m
  split at m
  · rename_i b k' fs q
    split at m
    · rename_i hk
      obtain ⟨hk, nk⟩ := hk
      subst hk
      obtain ⟨p0, dx, ws, c1, c2, c3, c4, c5, c6, c7⟩ := R.b i b k' fs q
      rw [hx] at c1
      cases c1
      refine ⟨p0, dx, ws, fs, vs, ds, G, rfl, c2, c3, c5, R.x.c, p, ?_⟩
      unfold RsY
      rw [if_pos nk]
      have hb : metX (evc T n f (.tuple fs :: ds)) ≠ .bad := fun e => by rw [e] at m; exact m
      refine ⟨fun hn => ?_, fun hn => ?_⟩
      · cases er : metO (evc T n f (.tuple fs :: ds)) with
        | ok r =>
          obtain ⟨d, gs⟩ := r
          have em := metO_ok' er
          rw [em] at m
          exact fun v H' G' ws' e1 h1 h2 h3 h4 => m v H' G' (R.obU q hx c2 e1 h1 h2 h3) e1.b h4
        | exc c =>
          have em := metO_exc' er
          exact (hb em).elim
        | bad => exact (hn er).elim
      · cases er : metX (evc T n f (.tuple fs :: ds)) with
        | ok d gs =>
          rw [er] at m
          exact fun v H' G' ws' e1 h1 h2 h3 h4 => m v H' G' (R.obU q hx c2 e1 h1 h2 h3) e1.b h4
        | exc c gs =>
          rw [er] at m
          exact fun H' G' ws' e1 g1 g2 g3 => m H' G' (R.obU q hx c2 e1 g1 g2 g3)
        | bad => exact (hb er).elim
    · exact m.elim
  · exact m.elim
theorem star_few {env : Env} {pos : Pos} : ∀ {es : List Expr}, es.all notStar = true → (backTo pos (starEach es env)).all (fun x => !x.1) = true
  | [], _ => rfl
  | e :: es, h => by
    rw [List.all_cons, Bool.and_eq_true] at h
    have ih := star_few (env := env) (pos := pos) h.2
    rw [star_cons h.1]
    show (true && (backTo pos (starEach es env)).all (fun x => !x.1)) = true
    rw [ih]; rfl
theorem meth_form {env : Env} {o : Expr} {m : Str} {ap pos : Pos} {xs : List Expr} (hb : attributeBase o m env (eval o env) = eval o env) (hn : xs.all notStar = true) (hz : xs.length < 20) (hl : (ap.endLine == pos.line) = true) :
    eval (.Call (.Attribute o m ap) xs [] pos) env = (do
      let ov ← eval o env
      standAt ap.atName
      let (f, first) ← holding [ov] (getMethod ov m (do return (← importBound o env).getD true))
      callWith pos f first (backTo pos (starEach xs env)) (backToKw pos (keywordEach [] env))) := by
  have few : methodCallForm (xs.length + ([] : List Keyword).length) (backTo pos (starEach xs env)) (backToKw pos (keywordEach [] env)) = true := by
    unfold methodCallForm
    rw [star_few hn]
    show (true && true && decide (xs.length + 0 + 0 < 30)) = true
    rw [decide_eq_true (by omega)]
    rfl
  have e0 : eval (.Call (.Attribute o m ap) xs [] pos) env = (do
    let ov ← attributeBase o m env (eval o env)
    standAt ap.atName
    methodCall o m ap pos env ov (xs.length + ([] : List Keyword).length) (backTo pos (starEach xs env)) (backToKw pos (keywordEach [] env))) := rfl
  rw [e0, hb]
  unfold methodCall
  rw [few]
  unfold methodCallPos calleeOf
  rw [hl]
  rfl
theorem m_mc {T : Nat → Option Def} {n lv i k f : Nat} {f0 : Addr} {fd : FuncData} {ps : List Str} {y m : Str} {py ap pos : Pos} {xs : List Expr} {r : List Sl → RM (List D)} (c : Cls X.K (clsA X.K k)) (hm : Meth X.K (clsA X.K k) m f0) (hb : Binds X.K fd ps [])
    (F : FnOk X.prog X.w X.K X.mg X.base (L2N.CX X.prog X.w) lv f0 fd ps (spM T ca X.K n f k)) (hr : Room lv X.A) (tk : L2N.Takes X W) (nf : m ∉ clsF k) (hv : PE X (.Name y py) (tVar i)) (ha : PA X xs (rdMs X.K ca W r)) (hn : xs.all notStar = true) (hz : xs.length < 20) (hl : (ap.endLine == pos.line) = true) (h0 : xs = [] → ∀ env, r env = .ok [] env) :
    PE X (.Call (.Attribute (.Name y py) m ap) xs [] pos) (rdM X.K ca W fun env => if hasO env i k = true then (r env).bind fun ds e => callM (evc T n) e i k f ds else .bad) := by
  cases xs with
  | nil =>
    refine PE.imp (pe_methSD0 (E := WE W) hv c hm F hr hb (fun σ => L2N.passAt tk σ) (meth_form rfl hn hz hl)) fun σ H Q ⟨S, He, Ge, G, env, R, h⟩ => ?_
    dsimp only at h
    split at h
    · rename_i ho
      obtain ⟨b, fs, q⟩ := hasO_some ho
      obtain ⟨p0, dx, ws, c1, c2, c3, _⟩ := R.b i b k fs q
      rw [h0 rfl env] at h
      exact ⟨.ref p0, c1, p0, dx, _, rfl, c2, zip_none nf, call_rd R .nil c1 h⟩
    · exact h.elim
  | cons x xs =>
    have hn' := hn
    rw [List.all_cons, Bool.and_eq_true] at hn'
    refine PE.imp (pe_methSD (E := WE W) hv c hm F hr hb (fun σ => L2N.passAt tk σ) ha hn'.1 hn'.2 (meth_form rfl hn hz hl)) fun σ H Q ⟨S, He, Ge, G, env, R, h⟩ => ?_
    dsimp only at h
    split at h
    · rename_i ho
      obtain ⟨b, fs, q⟩ := hasO_some ho
      obtain ⟨p0, dx, ws, c1, c2, c3, _⟩ := R.b i b k fs q
      exact ⟨.ref p0, c1, p0, dx, _, rfl, c2, zip_none nf, S, He, Ge, G, env, R, RsM.bind h fun ds e vs H1 G1 _ R1 s1 p1 h1 => call_rd R1 p1 c1 h1⟩
    · exact h.elim
theorem m_mx {T : Nat → Option Def} {n lv i k f : Nat} {f0 : Addr} {fd : FuncData} {ps : List Str} {y m : Str} {py ap pos : Pos} {xs : List Expr} {r : List Sl → RM (List D)} (c : Cls X.K (clsA X.K k)) (hm : Meth X.K (clsA X.K k) m f0) (hb : Binds X.K fd ps [])
    (F : FnOk X.prog X.w X.K X.mg X.base (L2N.CX X.prog X.w) lv f0 fd ps (spM T ca X.K n f k)) (hr : Room lv X.A) (tk : L2N.Takes X W) (nf : m ∉ clsF k) (hv : PE X (.Name y py) (tVar i)) (ha : PA X xs (rdMs X.K ca W r)) (hn : xs.all notStar = true) (hz : xs.length < 20) (hl : (ap.endLine == pos.line) = true) (h0 : xs = [] → ∀ env, r env = .ok [] env) :
    PE X (.Call (.Attribute (.Name y py) m ap) xs [] pos) (rdM X.K ca W fun env => if hasO env i k = true then (r env).bind fun ds e => callX (evc T n) e i k f ds else .bad) := by
  cases xs with
  | nil =>
    refine PE.imp (pe_methSD0 (E := WE W) hv c hm F hr hb (fun σ => L2N.passAt tk σ) (meth_form rfl hn hz hl)) fun σ H Q ⟨S, He, Ge, G, env, R, h⟩ => ?_
    dsimp only at h
    split at h
    · rename_i ho
      obtain ⟨b, fs, q⟩ := hasO_some ho
      obtain ⟨p0, dx, ws, c1, c2, c3, _⟩ := R.b i b k fs q
      rw [h0 rfl env] at h
      exact ⟨.ref p0, c1, p0, dx, _, rfl, c2, zip_none nf, callX_rd R .nil c1 h⟩
    · exact h.elim
  | cons x xs =>
    have hn' := hn
    rw [List.all_cons, Bool.and_eq_true] at hn'
    refine PE.imp (pe_methSD (E := WE W) hv c hm F hr hb (fun σ => L2N.passAt tk σ) ha hn'.1 hn'.2 (meth_form rfl hn hz hl)) fun σ H Q ⟨S, He, Ge, G, env, R, h⟩ => ?_
    dsimp only at h
    split at h
    · rename_i ho
      obtain ⟨b, fs, q⟩ := hasO_some ho
      obtain ⟨p0, dx, ws, c1, c2, c3, _⟩ := R.b i b k fs q
      exact ⟨.ref p0, c1, p0, dx, _, rfl, c2, zip_none nf, S, He, Ge, G, env, R, RsM.bind h fun ds e vs H1 G1 _ R1 s1 p1 h1 => callX_rd R1 p1 c1 h1⟩
    · exact h.elim
theorem callL_rd {T : Nat → Option Def} {n i f : Nat} {Q : VK} {e : List Sl} {d : D} {v x : V} (R : RSG K S He Ge G σ H e) (p : Dp K G v d) (hx : σ[i]? = some (some x))
    (m : RsM K ca W S He Ge σ G (Dp K) Q (callL (evc T n) e i f d)) : spL T K n f [v, x] H Q (WE W σ) := by
  unfold callL at m
  split at m
  · rename_i l q
    obtain ⟨p0, ws, c1, c2, c3, c4, c5, c6, c7, c8⟩ := R.l i l q
    rw [hx] at c1
    cases c1
    refine ⟨v, p0, ws, l, d, G, rfl, c2, c3, c5, R.x.c, p, ?_⟩
    cases er : metL (evc T n f [d, .list l]) with
    | ok r =>
      rw [er] at m
      exact fun v' H' G' ws' e1 h1 h2 h3 h4 => m v' H' G' (R.lnU q hx c2 e1 h1 h2 h3) e1.b h4
    | exc c => exact (metL_exc er).elim
    | bad => rw [er] at m; exact m.elim
  · exact m.elim
/-- a call with a lent list -/
theorem m_cl {T : Nat → Option Def} {n lv i f : Nat} {f0 : Addr} {fd : FuncData} {ps : List Str} {y z : Str} {yp zp pos : Pos} {xa : Expr} {r : List Sl → R D} (F : FnOk X.prog X.w X.K X.mg X.base (L2N.CX X.prog X.w) lv f0 fd ps (spL T X.K n f)) (hr : Room lv X.A) (hg : Gl X y) (hm : X.mg y = some (.ref f0)) (hk : PySem.W.keepIn X.K (.ref f0) = true) (hb : Binds X.K fd ps [])
    (tk : L2N.Takes X W) (hd : (y == ("__debug__" : Str)) = false) (ns : notStar xa = true) (ha : Both X ca W xa r) (hv : PE X (.Name z zp) (tVar i)) :
    PE X (.Call (.Name y yp) [xa, .Name z zp] [] pos) (rdM X.K ca W fun env => (liftM env (r env)).bind fun d e => callL (evc T n) e i f d) := by
  have hA : PA X [xa, .Name z zp] (tCons (rdM X.K ca W fun env => liftM env (r env)) (tCons (tVar i) tNil)) := pa_cons (m_e ha).pe (pa_cons hv pa_nil rfl) (star_cons ns)
  refine PE.imp (pe_callS (E := WE W) F hr hg hm hk hb (fun σ => L2N.passAt tk σ) hA hd (star_cons ns) (star_none rfl)) fun σ H Q ⟨S, He, Ge, G, env, R, h⟩ => ?_
  refine ⟨S, He, Ge, G, env, R, RsM.bind h fun d e v H1 G1 _ R1 s1 p1 h1 => ?_⟩
  have hl : ∃ l, e[i]? = some (.ln l) := by
    unfold callL at h1
    split at h1
    · rename_i l q; exact ⟨l, q⟩
    · exact h1.elim
  obtain ⟨l, q⟩ := hl
  obtain ⟨p0, ws, c1, _⟩ := R1.l i l q
  exact ⟨.ref p0, c1, callL_rd R1 p1 c1 h1⟩
/-! ### calls of defs and builtins, their arguments may change an object -/
theorem m_def {T : Nat → Option Def} {n i k : Nat} {x : Str} {f : Addr} {fd : FuncData} {ps : List Str} {e : Expr} {es : List Expr} {p pos : Pos} {r : List Sl → RM (List D)} (F : FnOk X.prog X.w X.K X.mg X.base (L2N.CX X.prog X.w) k f fd ps (spF T ca X.K n i)) (hr : Room k X.A) (hg : Gl X x) (hm : X.mg x = some (.ref f)) (hk : PySem.W.keepIn X.K (.ref f) = true) (hb : Binds X.K fd ps [])
    (tk : L2N.Takes X W) (hd : (x == ("__debug__" : Str)) = false) (ns : (e :: es).all notStar = true) (ha : PA X (e :: es) (rdMs X.K ca W r)) :
    PE X (.Call (.Name x p) (e :: es) [] pos) (rdM X.K ca W fun env => (r env).bind fun ds e => liftM e (evc T n i ds)) := by
  rw [List.all_cons, Bool.and_eq_true] at ns
  refine PE.imp (pe_callS (E := WE W) F hr hg hm hk hb (fun σ => L2N.passAt tk σ) ha hd (star_cons ns.1) (star_none ns.2)) fun σ H Q ⟨S, He, Ge, G, env, R, h⟩ => ⟨S, He, Ge, G, env, R, RsM.bind h fun ds e vs H1 G1 _ R1 s1 p1 h1 => ?_⟩
  exact ⟨ds, G1, R1.x.c, p1, RsM.lift R1 h1⟩
theorem m_callB {x : Str} {id : Value} {e : Expr} {es : List Expr} {p pos : Pos} {r : List Sl → RM (List D)} {f : List D → R D} {rr : List V → Hp → VK → Prop} (h : PE X (.Call (.Name x p) (e :: es) [] pos) (tCB rr (rdMs X.K ca W r))) (hs : SemCall X.K rr f) :
    PE X (.Call (.Name x p) (e :: es) [] pos) (rdM X.K ca W fun env => (r env).bind fun ds e => liftM e (f ds)) :=
  PE.imp h fun σ H Q ⟨S, He, Ge, G, env, R, hm⟩ => ⟨S, He, Ge, G, env, R, RsM.bind hm fun xs e vs H1 G1 _ R1 s1 p1 hm1 => hs _ _ _ _ _ _ R1.x.c p1 (RsM.lift R1 hm1)⟩
theorem m_bf {f : Bf} {e : Expr} {es : List Expr} {p pos : Pos} {r : List Sl → RM (List D)} (hc : X.calm = true) (hg : Gl X (bfName f)) (hm : X.mg (bfName f) = none) (n : (e :: es).all notStar = true) (ha : PA X (e :: es) (rdMs X.K ca W r)) :
    PE X (.Call (.Name (bfName f) p) (e :: es) [] pos) (rdM X.K ca W fun env => (r env).bind fun ds e => liftM e (bfR f ds)) := by
  obtain ⟨rr, h1, h2⟩ := rule_bf hc f
  rw [List.all_cons, Bool.and_eq_true] at n
  have hv := bf_boot f
  have hn := bf_name f
  have hd := bf_dbg f
  have s1 := star_cons (env := X.env) (es := es) n.1
  have s2 := star_none (env := X.env) (pos := pos) n.2
  cases f with
  | int => exact m_callB (id := .none) (pe_callTy h1 hg hm hv ha hn hd s1 s2) h2
  | tuple => exact m_callB (id := .none) (pe_callTy h1 hg hm hv ha hn hd s1 s2) h2
  | list => exact m_callB (id := .none) (pe_callTy h1 hg hm hv ha hn hd s1 s2) h2
  | _ => exact m_callB (id := .none) (pe_callB h1 hg hm hv ha hn hd s1 s2) h2
/-! ### a comprehension whose element may change an object -/
theorem RSG.putD {D0 : Addr} {us ws : List V} (h : RSG K S He Ge G σ H env) (hG : G D0 = none) (hGe : Ge D0 = none) (hh : H D0 = none ∨ (∃ us, H D0 = some (.lst us)) ∧ ∃ o, He D0 = some o) : RSG K S (L2.upd He D0 (.lst ws)) Ge G σ (L2.upd H D0 (.lst ws)) env := by
  refine h.move ⟨fun p o q => ?_, h.x.b, fun p o q => ?_, fun p o q n => ?_⟩ (Same.refl _) fun p u => ?_
  · by_cases z : p = D0
    · subst z; rw [upd_same] at q ⊢; exact q
    · rw [upd_ne z] at q ⊢; exact h.x.a p o q
  · rw [upd_ne (ne_of_none q hG)]; exact h.x.c p o q
  · by_cases z : p = D0
    · subst z; exact hG
    · rw [upd_ne z] at q; exact h.x.d p o q n
  · obtain ⟨⟨o, ho⟩, u2, u3⟩ := h.us u
    have z : p ≠ D0 := by
      rintro rfl
      rcases hh with h3 | ⟨_, o2, h3⟩
      · rw [h3] at ho; cases ho
      · rw [h3] at u2; cases u2
    exact ⟨by rw [upd_ne z], by rw [upd_ne z]; exact u2, u3⟩
theorem upd_none {H0 : Hp} {D0 p : Addr} {o : HO} (h : L2.upd H0 D0 o p = none) : p ≠ D0 ∧ H0 p = none := by
  by_cases z : p = D0
  · subst z; rw [upd_same] at h; cases h
  · rw [upd_ne z] at h; exact ⟨z, h⟩
theorem RSG.dropD {D0 : Addr} {ws : List V} (h : RSG K S (L2.upd He D0 (.lst ws)) Ge G σ H env) (hD : He D0 = none) : RSG K S He Ge G σ H env := by
  have ne : ∀ p o, He p = some o → p ≠ D0 := fun p o q z => by subst z; rw [hD] at q; cases q
  refine h.move ⟨fun p o q => h.x.a p o (by rw [upd_ne (ne p o q)]; exact q), h.x.b, h.x.c, fun p o q n => h.x.d p o (by rw [upd_ne (ne p o q)]; exact q) n⟩ (Same.refl _) fun p u => ?_
  obtain ⟨_, u2, u3⟩ := h.us u
  exact ⟨rfl, (upd_none u2).2, u3⟩
theorem RSG.giveD {D0 : Addr} {ws : List V} (h : RSG K S (L2.upd He D0 (.lst ws)) Ge G σ H env) (hD : He D0 = none) (hG : G D0 = none) (hH : H D0 = some (.lst ws)) : RSG K S He Ge (L2.upd G D0 (.lst ws)) σ H env := by
  have R := h.dropD hD
  have s1 : Same G (L2.upd G D0 (.lst ws)) := Same.upd hG
  refine h.move ⟨R.x.a, R.x.b.trans s1, fun p o q => ?_, fun p o q n => ?_⟩ s1 fun p u => ?_
  · by_cases z : p = D0
    · subst z; rw [upd_same] at q; cases q; exact hH
    · rw [upd_ne z] at q; exact R.x.c p o q
  · have z : p ≠ D0 := fun z => by subst z; rw [hD] at q; cases q
    rw [upd_ne z]; exact R.x.d p o q n
  · obtain ⟨_, u2, u3⟩ := h.us u
    obtain ⟨z, u2⟩ := upd_none u2
    exact ⟨rfl, u2, by rw [upd_ne z]; exact u3⟩
theorem set_back {τ : L2.St} {i : Nat} {σ : L2.St} (h : τ.set i none = σ.set i none) (hl : τ.length = σ.length) : ∃ o : Option V, τ.set i o = σ := by
  by_cases hi : i < σ.length
  · refine ⟨σ[i], List.ext_getElem (by rw [List.length_set, hl]) fun j h1 h2 => ?_⟩
    by_cases z : i = j
    · subst z; rw [List.getElem_set_self]
    · rw [List.getElem_set_ne z]
      have q := congrArg (fun l : L2.St => l[j]?) h
      rw [List.getElem?_set_ne z, List.getElem?_set_ne z] at q
      rw [List.getElem?_eq_getElem (by omega), List.getElem?_eq_getElem h2] at q
      exact Option.some.inj q
  · refine ⟨none, ?_⟩
    rw [h, List.set_eq_of_length_le (by omega)]
theorem upd_upd' {H0 : Hp} {D0 : Addr} {o o2 : HO} : L2.upd (L2.upd H0 D0 o) D0 o2 = L2.upd H0 D0 o2 := by
  funext p
  by_cases z : p = D0
  · subst z; rw [upd_same, upd_same]
  · rw [upd_ne z, upd_ne z, upd_ne z]
theorem lcm_read {i : Nat} {wi : List Sl → R (List D)} {re : List Sl → RM D} {Q : VK} (h : rdM K ca W (fun env => (liftM env (wi env)).bind fun ds e => (lcGoM i re ds e).bind fun l e2 => .ok (.list l) e2) σ H Q) :
    tLcX (rdI K ca W wi) (gT K (.one i)) tYes (fun V => rdM K ca V re) [i] W σ H Q := by
  obtain ⟨S, He, Ge, G, env, R, hm⟩ := h
  refine R.rdI ?_
  dsimp only at hm
  cases ew : wi env with
  | exc c => rw [ew] at hm; exact fun H1 G1 x => hm H1 G1 (R.ext x)
  | bad => rw [ew] at hm; exact hm
  | ok ds =>
    rw [ew] at hm
    intro J H1 G1 x1 wk Dd hD
    have hm : RsM K ca W S He Ge σ G (Dp K) Q ((lcGoM i re ds env).bind fun l e2 => .ok (.list l) e2) := hm
    have R1 := R.ext x1
    have hHe : He Dd = none := by
      cases z : He Dd with
      | none => rfl
      | some o => rw [R1.x.a _ o z] at hD; cases hD
    have hG1 : G1 Dd = none := x1.c.free hD
    have hGe : Ge Dd = none := R1.x.b.free hG1
    have hb0 : ∃ o : Option V, (σ.set i none).set i o = σ := set_back (by rw [List.set_set]) (by rw [List.length_set])
    refine ⟨fun j m H' => m = ds.length - j ∧ j ≤ ds.length ∧ ∃ e G' acc outs, RSG K S (L2.upd He Dd (.lst acc)) Ge G' (σ.set i none) H' (e.set i .no) ∧ Same G1 G' ∧ G' Dd = none ∧ DpAll K G' acc outs ∧ outs.length = j ∧ RsM K ca W S He Ge σ G (Dp K) Q ((lcGoM i re (ds.drop j) e).bind fun r e2 => .ok (.list (outs ++ r)) e2),
      ⟨ds.length, by simp, Nat.zero_le _, env, G1, [], [], (R1.putD (us := []) hG1 hGe (.inl hD)).unset, Same.refl _, hG1, .nil, rfl, hm⟩, ?_⟩
    rintro j m H' ⟨rfl, hj, e, G', acc, outs, r, b1, b3, b4, b5, b6⟩
    have b2 : H' Dd = some (.lst acc) := r.x.a _ _ upd_same
    by_cases hlt : j < ds.length
    · refine .inr ⟨wk.goes j H' hlt (Same.d (b1.trans r.x.c)), fun H'' => j + 1 ≤ ds.length ∧ ∃ e G' acc outs, RSG K S (L2.upd He Dd (.lst acc)) Ge G' (σ.set i none) H'' (e.set i .no) ∧ Same G1 G' ∧ G' Dd = none ∧ DpAll K G' acc outs ∧ outs.length = j + 1 ∧ RsM K ca W S He Ge σ G (Dp K) Q ((lcGoM i re (ds.drop (j + 1)) e).bind fun r e2 => .ok (.list (outs ++ r)) e2),
        fun H'' z => ⟨ds.length - (j + 1), by omega, rfl, z.1, z.2⟩, fun x H2 y => ?_⟩
      obtain ⟨d, G2, hd, x2, dp⟩ := wk.yields j H' x H2 G' hlt (Same.d b1) r.x.c y
      have ed : ds.drop j = d :: ds.drop (j + 1) := by
        have q := List.drop_eq_getElem_cons hlt
        rw [q]
        have q2 : ds[j] = d := by
          have q3 := List.getElem?_eq_getElem hlt
          rw [hd] at q3
          exact (Option.some.inj q3).symm
        rw [q2]
      rw [ed] at b6
      have r3 := (r.ext x2).set (i := i) dp
      refine (show L2.wipe ((σ.set i none).set i (some x)) [i] = L2.wipe σ [i] ∧ tYes ((σ.set i none).set i (some x)) H2 _ from ⟨?_, ?_⟩)
      · show ((σ.set i none).set i (some x)).set i none = σ.set i none
        rw [List.set_set, List.set_set]
      · unfold tYes
        refine cast (if_pos rfl).symm ?_
        have hb1 : ∃ o : Option V, ((σ.set i none).set i (some x)).set i o = σ := set_back (by rw [List.set_set, List.set_set]) (by rw [List.length_set, List.length_set])
        refine ⟨S, L2.upd He Dd (.lst acc), Ge, G2, _, r3, ?_⟩
        unfold lcGoM at b6
        cases er : re ((e.set i .no).set i (.fr d)) with
        | bad => rw [er] at b6; exact b6
        | exc c e4 =>
          rw [er] at b6
          intro H4 G4 r4
          have r4 : RSG K S (L2.upd He Dd (.lst acc)) Ge G4 ((σ.set i none).set i (some x)) H4 e4 := r4
          obtain ⟨o, ho⟩ := hb1
          have r5 := (r4.dropD hHe).unset (i := i) (o := o)
          rw [ho] at r5
          exact b6 H4 G4 r5
        | ok xx e4 =>
          rw [er] at b6
          have b6 : RsM K ca W S He Ge σ G (Dp K) Q (((lcGoM i re (ds.drop (j + 1)) e4).bind fun l e2 => .ok (xx :: l) e2).bind fun r e2 => .ok (.list (outs ++ r)) e2) := b6
          intro v H4 G4 r4 s4 p4
          have r4 : RSG K S (L2.upd He Dd (.lst acc)) Ge G4 ((σ.set i none).set i (some x)) H4 e4 := r4
          have w6 : H4 Dd = some (.lst acc) := r4.x.a _ _ upd_same
          have w4 : G4 Dd = none := r4.x.d Dd _ upd_same hGe
          have r5 := (r4.putD (us := []) (ws := acc ++ [v]) w4 hGe (.inr ⟨⟨_, w6⟩, _, upd_same⟩)).unset (i := i) (o := none)
          rw [upd_upd', List.set_set, List.set_set] at r5
          refine ⟨acc, w6, ?_, hlt, e4, G4, acc ++ [v], outs ++ [xx], r5, b1.trans (x2.b.trans s4), w4, dpAll_app (dpAll_mono (x2.b.trans s4) b4) (.cons p4 .nil), by rw [List.length_append, b5]; rfl, ?_⟩
          · have := wk.le
            rw [dpAll_len b4]
            omega
          · cases el : lcGoM i re (ds.drop (j + 1)) e4 with
            | exc c e5 => rw [el] at b6; exact b6
            | bad => rw [el] at b6; exact b6
            | ok l e5 =>
              rw [el] at b6
              show RsM K ca W S He Ge σ G (Dp K) Q (.ok (.list ((outs ++ [xx]) ++ l)) e5)
              rw [List.append_assoc]
              exact b6
    · have e0 : j = ds.length := by omega
      subst e0
      rw [List.drop_length] at b6
      have b6 : RsM K ca W S He Ge σ G (Dp K) Q (.ok (.list (outs ++ [])) (e.set i .no)) := b6
      rw [List.append_nil] at b6
      refine .inl ⟨wk.stops H' (Same.d (b1.trans r.x.c)), ?_⟩
      obtain ⟨o, ho⟩ := hb0
      have r5 := (r.giveD hHe b3 b2).unset (i := i) (o := o)
      rw [ho, List.set_set] at r5
      have s1 : Same G' (L2.upd G' Dd (.lst acc)) := Same.upd b3
      exact b6 (.ref Dd) H' _ r5 (x1.b.trans (b1.trans s1)) (.lst (SqL.of upd_same) (dpAll_mono s1 b4))
/-! ### new objects -/
theorem Ext.made {p dx : Addr} {o o2 : HO} {G1 : Hp} {R1 : List Addr} (n1 : H p = none) (n2 : H dx = none) (e : Ext (delL (upd (upd H dx o) p o2) [p]) G (delL H1 R1) G1) : Ext H G (delL H1 R1) G1 := by
  have k : ∀ (b : Addr) (u : HO), H b = some u → delL (upd (upd H dx o) p o2) [p] b = some u := fun b u h => by
    have h1 : b ≠ p := ne_of_none h n1
    have h2 : b ≠ dx := ne_of_none h n2
    rw [delL_ne (fun z => h1 (List.mem_singleton.mp z)), upd_ne h1, upd_ne h2]
    exact h
  exact ⟨fun b u h => e.a b u (k b u h), e.b, e.c, fun b u h n => e.d b u (k b u h) n⟩
theorem rg_new {k : Nat} {p dx : Addr} {H0 : Hp} (h : H0 p = some (.ins (clsA K k) dx [])) : rg H0 k p = [p] := by
  unfold rg rgO
  rw [h]
  dsimp only
  split <;> rfl
theorem insO_nil {k : Nat} {dx : Addr} : insO K k dx [] = .ins (clsA K k) dx [] := by
  unfold insO
  rw [List.zip_nil_right]
theorem flR_nil {k : Nat} : FlR K G H k [] [] := by
  unfold FlR
  split
  · exact ⟨.nil, .nil, Nat.zero_le _⟩
  · exact .nil
theorem make_rd {T : Nat → Option Def} {n k f : Nat} {e : List Sl} {ds : List D} {vs : List V} {Q : Addr → Hp → Prop} (R : RSG K S He Ge G σ H e) (p : DpAll K G vs ds)
    (m : match metO (evc T n f (.tuple [] :: ds)) with
      | .ok (.none, fs) => ∀ x dx H' G' ws, H x = none → Ext H G (delL H' (rg H' k x)) G' → H' x = some (insO K k dx ws) → FlR K G' H' k ws fs → (∀ r ∈ rg H' k x, G' r = none) → Q x H'
      | .exc c => ∀ H' G', RSG K S He Ge G' σ H' e → BX ca W σ c H'
      | _ => False) (x dx : Addr) (h1 : H x = none) (h2 : H dx = none) (h3 : dx ≠ x) :
    spM T ca K n f k (.ref x :: vs) (upd (upd H dx (.own x)) x (.ins (clsA K k) dx [])) (fun v H2 => v = .non ∧ Q x H2) (WE W σ) := by
  have s : Same G (upd (upd H dx (.own x)) x (.ins (clsA K k) dx [])) := fun b u h => by
    have h := R.x.c b u h
    rw [upd_ne (ne_of_none h h1), upd_ne (ne_of_none h h2)]
    exact h
  have er0 := rg_new (K := K) (k := k) (p := x) (dx := dx) (H0 := upd (upd H dx (.own x)) x (.ins (clsA K k) dx [])) upd_same
  refine ⟨x, dx, [], [], vs, ds, G, rfl, by rw [upd_same, insO_nil], flR_nil, fun r hr => ?_, s, p, ?_⟩
  · rw [er0] at hr
    rw [List.mem_singleton.mp hr]
    exact R.x.c.free h1
  refine RsY.of (fun e => by rw [e] at m; exact m) ?_
  cases er : metO (evc T n f (.tuple [] :: ds)) with
  | ok r =>
    rw [er] at m
    obtain ⟨d, fs⟩ := r
    cases d with
    | none =>
      exact fun v H' G' ws e1 g1 g2 g3 g4 => by
        cases g4
        rw [er0] at e1
        exact ⟨rfl, m x dx H' G' ws h1 (Ext.made h1 h2 e1) g1 g2 g3⟩
    | _ => exact m.elim
  | exc c =>
    rw [er] at m
    exact fun H' G' ws e1 _ _ => m H' G' ((R.ext (Ext.made h1 h2 (by rw [er0] at e1; exact e1))).grow delL_same)
  | bad => rw [er] at m; exact m.elim
def tMakeSD (C : Addr) (sp : Sp) (E : L2.St → XK) (t : TA) : TE := fun σ H Q => t σ H fun vs H1 => ∀ x dx, H1 x = none → H1 dx = none → dx ≠ x →
  sp (.ref x :: vs) (upd (upd H1 dx (.own x)) x (.ins C dx [])) (fun v H2 => v = .non ∧ Q (.ref x) H2) (E σ)
theorem run_makeSD {CX : CXT} {k : Nat} {C f : Addr} {fd : FuncData} {ps : List Str} {sp : Sp} {E : L2.St → XK} {pins : List (Addr × Obj)} {s : Shared} {Q : VK} {us : List Value} {vs : List V} (M : Mk X.K C f) (F : FnOk X.prog X.w X.K X.mg X.base CX k f fd ps sp) (hr : Room (k + 1) X.A) (hb : Binds X.K fd ps [])
    (hx : PassesAt CX X σ (E σ)) (I : Inv X pins σ H s) (r : Vals vs us)
    (h : ∀ x dx, H x = none → H dx = none → dx ≠ x → sp (.ref x :: vs) (upd (upd H dx (.own x)) x (.ins C dx [])) (fun v H2 => v = .non ∧ Q (.ref x) H2) (E σ)) :
    wpAny (model X.prog X.w) X.A (call (.ref C) us) (EP X pins σ Q) X.xe s := by
  have hq := h (s.heap.objs.size + 1) s.heap.objs.size (I.hok.fresh (Nat.le_succ _)) (I.hok.fresh (Nat.le_refl _)) (Nat.ne_of_lt (Nat.lt_succ_self _))
  have I2 := Inv.made (C := C) I
  have r2 : Vals (V.ref (s.heap.objs.size + 1) :: vs) (Value.ref (s.heap.objs.size + 1) :: us) := .cons rfl r
  have hl : (Value.ref (s.heap.objs.size + 1) :: us ++ []).length = ps.length := by
    have e := r2.length
    rw [F.len _ _ _ _ hq] at e
    rw [List.append_nil]
    exact e.symm
  have b := hb _ (Value.ref (s.heap.objs.size + 1) :: us) I2.kIn hl
  rw [List.append_nil] at b
  refine wpAny_call (make_map (f := f) I.kIn M.makes M.init (beq_iff_eq.mp M.fn) (codeAny_mono (F.run _ X.stack _ _ ⟨Value.ref (s.heap.objs.size + 1) :: us, []⟩ (Value.ref (s.heap.objs.size + 1) :: us) _ _ (E σ) (hr.make C us [])
    (I2.env0.make C us []) b r2 hq) fun r s' hq' => ?_))
  cases r with
  | error e => exact hx pins _ _ e s' I2 hq'
  | ok fl =>
    cases fl with
    | ret u =>
      obtain ⟨v, H', I3, rv, ev, q3⟩ := I2.after hq'
      subst ev
      exact ⟨rv, ⟨V.ref (s.heap.objs.size + 1), H', I3, rfl, q3⟩⟩
    | next => exact False.elim hq'
    | brk => exact False.elim hq'
    | cont => exact False.elim hq'
theorem pe_makeSD {CX : CXT} {k : Nat} {C f : Addr} {fd : FuncData} {ps : List Str} {sp : Sp} {E : L2.St → XK} {x : Str} {e : Expr} {es : List Expr} {t : TA} {p pos : Pos} (M : Mk X.K C f) (F : FnOk X.prog X.w X.K X.mg X.base CX k f fd ps sp) (hr : Room (k + 1) X.A) (hg : Gl X x) (hm : X.mg x = some (.ref C)) (hb : Binds X.K fd ps [])
    (hx : ∀ σ, PassesAt CX X σ (E σ)) (ha : PA X (e :: es) t) (hdb : (x == ("__debug__" : Str)) = false) (hn : (e :: es).all notStar = true) :
    PE X (.Call (.Name x p) (e :: es) [] pos) (tMakeSD C sp E t) := by
  rw [List.all_cons, Bool.and_eq_true] at hn
  refine ⟨fun pins s σ H Q I h => ?_⟩
  refine wpAny_Call_Name_kw (ld_glob I hg hm ?_ hdb)
  refine PySem.W.callWith_K (h₀ := X.base) I.ok.mod.kin M.kp (thn (ha.run pos pins s σ H _ I h) fun us s1 ⟨vs, H1, I1, r, q⟩ => ⟨I1.kIn, ?_⟩) (star_cons hn.1) (star_none hn.2)
  exact run_makeSD M F hr hb (hx σ) I1 r q
theorem Ext.delE {R : List Addr} {G1 : Hp} (e : Ext H G H1 G1) (n : ∀ r ∈ R, G1 r = none) : Ext (delL H R) G (delL H1 R) G1 :=
  ⟨fun b u h => by
    obtain ⟨h1, h2⟩ := delL_some h
    rw [delL_ne h1]; exact e.a b u h2, e.b, fun b u h => by
    rw [delL_ne fun z => by rw [n b z] at h; cases h]; exact e.c b u h, fun b u h n2 => e.d b u (delL_some h).2 n2⟩
/-- C(..).m(..) -/
theorem m_mk {T : Nat → Option Def} {n lv lv1 k f hh : Nat} {f0 f1 : Addr} {fd fd1 : FuncData} {ps ps1 : List Str} {y m : Str} {py cp ap pos : Pos} {xa : Expr} {xs : List Expr} {xb : Expr} {ys : List Expr} {ra rb : List Sl → R (List D)} (c : Cls X.K (clsA X.K k)) (M : Mk X.K (clsA X.K k) f0) (hb0 : Binds X.K fd ps [])
    (F0 : FnOk X.prog X.w X.K X.mg X.base (L2N.CX X.prog X.w) lv f0 fd ps (spM T ca X.K n f k)) (hr : Room (lv + 1) X.A) (hg : Gl X y) (hmg : X.mg y = some (.ref (clsA X.K k))) (hdb : (y == ("__debug__" : Str)) = false)
    (hm : Meth X.K (clsA X.K k) m f1) (hb : Binds X.K fd1 ps1 []) (hr1 : Room lv1 X.A) (F : FnOk X.prog X.w X.K X.mg X.base (L2N.CX X.prog X.w) lv1 f1 fd1 ps1 (spM T ca X.K n hh k)) (tk : L2N.Takes X W) (nf : m ∉ clsF k)
    (ha : PA X (xa :: xs) (rdA X.K ca W ra)) (hna : (xa :: xs).all notStar = true) (hbb : PA X (xb :: ys) (rdA X.K ca W rb)) (hnb : (xb :: ys).all notStar = true) (hz : (xb :: ys).length < 20) (hl : (ap.endLine == pos.line) = true) :
    PE X (.Call (.Attribute (.Call (.Name y py) (xa :: xs) [] cp) m ap) (xb :: ys) [] pos) (rdM X.K ca W fun env => (liftM env (ra env)).bind fun ds e => (makeM (evc T n) e f ds).bind fun fs e => (liftM e (rb e)).bind fun es e => onceM (evc T n) e hh fs es) := by
  have hnb' := hnb
  rw [List.all_cons, Bool.and_eq_true] at hnb'
  refine PE.imp (pe_methSD (E := WE W) (pe_makeSD (E := WE W) M F0 hr hg hmg hb0 (fun σ => L2N.passAt tk σ) (m_es ha) hdb hna) c hm F hr1 hb (fun σ => L2N.passAt tk σ) hbb hnb'.1 hnb'.2 (meth_form rfl hnb hz hl)) fun σ H Q ⟨S, He, Ge, G, env, R, h⟩ => ?_
  refine ⟨S, He, Ge, G, env, R, RsM.bind h fun ds e vs H1 G1 _ R1 s1 p1 h1 => ?_⟩
  refine make_rd R1 p1 (Q := fun x H2 => _) ?_
  unfold makeM at h1
  cases em : metO (evc T n f (.tuple [] :: ds)) with
  | bad => rw [em] at h1; exact h1.elim
  | exc cc => rw [em] at h1; exact h1
  | ok r =>
    rw [em] at h1
    obtain ⟨d, fs⟩ := r
    cases d with
    | none =>
      intro x dx H2 G2 ws n1 e1 g1 g2 g3
      refine ⟨x, dx, _, rfl, g1, zip_none nf, ?_⟩
      have R2d : RSG X.K S He Ge G2 σ (delL H2 (rg H2 k x)) e := R1.ext e1
      have R2 : RSG X.K S He Ge G2 σ H2 e := R2d.grow delL_same
      have h2 : RsM X.K ca W S He Ge σ G1 (Dp X.K) Q ((liftM e (rb e)).bind fun es e => onceM (evc T n) e hh fs es) := h1
      refine R2.rdA ?_
      cases eb : rb e with
      | bad => rw [eb] at h2; exact h2.elim
      | exc cc => rw [eb] at h2; exact fun H3 G3 e3 => h2 H3 G3 (R2.ext e3)
      | ok es =>
        rw [eb] at h2
        have h2 : RsM X.K ca W S He Ge σ G1 (Dp X.K) Q (onceM (evc T n) e hh fs es) := h2
        intro vs3 H3 G3 e3 p3
        have e5 : rg H3 k x = rg H2 k x := rg_eq (by rw [g1]; exact e3.a x _ g1)
        have g5 : ∀ r ∈ rg H3 k x, G3 r = none := fun r hr => by
          rw [e5] at hr
          obtain ⟨⟨o, ho⟩, _⟩ := rg_facts g1 g2 r hr
          exact e3.d r o ho (g3 r hr)
        have R3d : RSG X.K S He Ge G3 σ (delL H3 (rg H3 k x)) e := by
          rw [e5] at g5 ⊢
          exact R2d.ext (e3.delE g5)
        unfold onceM at h2
        refine ⟨x, dx, ws, fs, vs3, es, G3, rfl, e3.a x _ g1, g2.move g1 e3.b (fun r _ o ho => e3.a r o ho), g5, e3.c, p3, RsY.of (fun e => by rw [e] at h2; exact h2) ?_⟩
        cases eo : metO (evc T n hh (.tuple fs :: es)) with
        | bad => rw [eo] at h2; exact h2.elim
        | exc cc => rw [eo] at h2; exact fun H4 G4 ws4 e4 _ _ => h2 H4 G4 ((R3d.ext e4).grow delL_same)
        | ok r =>
          rw [eo] at h2
          exact fun v H4 G4 ws4 e4 k1 k2 k3 k4 => h2 v H4 G4 ((R3d.ext e4).grow delL_same) (e1.b.trans (e3.b.trans e4.b)) k4
    | _ => exact h1.elim
end
/-! ### soundness -/
section
variable {T : Nat → Option Def} {g : Gm} {ca : Str → Value} {n : Nat}
theorem evMs_len {F : Nat → List D → R D} : ∀ {ms : Ms} {L : Lx} {xs : List Expr} {ds : List D} {env e : List Sl}, chkMs g ms L xs = true → evMs F env ms = .ok ds e → ds.length = xs.length
  | .nil, L, xs, ds, env, e, h, q => by
    unfold evMs at q
    cases q
    unfold chkMs at h
    cases xs with
    | nil => rfl
    | cons _ _ => cases h
  | .cons m ms, L, xs, ds, env, e, h, q => by
    unfold chkMs at h
    cases xs with
    | nil => cases h
    | cons x xs =>
      dsimp only at h
      rw [Bool.and_eq_true] at h
      unfold evMs at q
      cases e1 : evM F env m with
      | ok d e2 =>
        rw [e1] at q
        dsimp only [RM.bind] at q
        cases e3 : evMs F e2 ms with
        | ok l e4 =>
          rw [e3] at q
          cases q
          rw [List.length_cons, List.length_cons, evMs_len h.2 e3]
        | _ => rw [e3] at q; cases q
      | _ => rw [e1] at q; cases q
mutual
theorem sndM : ∀ (m : M) {X : Cx} {L : Lx} {W : WX} {x : Expr}, CxOk T g ca n L X → L2N.Takes X W → chkM g m L x = true → BothM X ca W x (fun env => evM (evc T n) env m) ∧ notStar x = true
  | .e e, X, L, W, x, C, tk, h => by
    unfold chkM at h
    simp only [evM]
    obtain ⟨a1, a2⟩ := sndE e C tk h
    exact ⟨m_e a1, a2⟩
  | .mc i k f ms, X, L, W, x, C, tk, h => by
    unfold chkM at h
    simp only [evM]
    split at h
    · rename_i y py m ap xs cp
      simp only [Bool.and_eq_true, decide_eq_true_eq, Bool.not_eq_true'] at h
      obtain ⟨⟨⟨⟨⟨⟨⟨h1, h2⟩, h3⟩, h4⟩, h5⟩, h6⟩, h7⟩, h8⟩ := h
      have hv := h2
      unfold visB at hv
      rw [Bool.and_eq_true] at hv
      have dd := dbg_of hv.2
      have Z := C.clss k (List.contains_iff_mem.mp h5)
      obtain ⟨f0, fd, ps, m1, m2, m3⟩ := C.mths k m f (List.contains_iff_mem.mp h6)
      obtain ⟨a1, a2⟩ := sndMs ms C tk h8
      refine ⟨bothM_val (m_mc Z.cls m1 m2 m3 (C.room.mono (by omega)) tk (fun z => by rw [List.contains_iff_mem.mpr z] at h7; cases h7) (pe_var (by rw [C.hN]; exact h1) (C.vis h2) dd.1 dd.2) a1 a2 h3 h4 fun e env => ?_) fun _ => rfl, rfl⟩
      subst e
      unfold chkMs at h8
      cases ms with
      | nil => simp only [evMs]
      | cons _ _ => cases h8
    · cases h
  | .mx i k f ms, X, L, W, x, C, tk, h => by
    unfold chkM at h
    simp only [evM]
    split at h
    · rename_i y py m ap xs cp
      simp only [Bool.and_eq_true, decide_eq_true_eq, Bool.not_eq_true'] at h
      obtain ⟨⟨⟨⟨⟨⟨⟨h1, h2⟩, h3⟩, h4⟩, h5⟩, h6⟩, h7⟩, h8⟩ := h
      have hv := h2
      unfold visB at hv
      rw [Bool.and_eq_true] at hv
      have dd := dbg_of hv.2
      have Z := C.clss k (List.contains_iff_mem.mp h5)
      obtain ⟨f0, fd, ps, m1, m2, m3⟩ := C.mths k m f (List.contains_iff_mem.mp h6)
      obtain ⟨a1, a2⟩ := sndMs ms C tk h8
      refine ⟨bothM_val (m_mx Z.cls m1 m2 m3 (C.room.mono (by omega)) tk (fun z => by rw [List.contains_iff_mem.mpr z] at h7; cases h7) (pe_var (by rw [C.hN]; exact h1) (C.vis h2) dd.1 dd.2) a1 a2 h3 h4 fun e env => ?_) fun _ => rfl, rfl⟩
      subst e
      unfold chkMs at h8
      cases ms with
      | nil => simp only [evMs]
      | cons _ _ => cases h8
    · cases h
  | .mk k f as hh bs, X, L, W, x, C, tk, h => by
    unfold chkM at h
    simp only [evM]
    split at h
    · rename_i y py xa xs cp m ap xb ys pos
      simp only [Bool.and_eq_true, decide_eq_true_eq, Bool.not_eq_true'] at h
      obtain ⟨⟨⟨⟨⟨⟨⟨⟨⟨h1, h2⟩, h3⟩, h4⟩, h5⟩, h6⟩, h7⟩, h8⟩, h9⟩, h10⟩ := h
      subst h1
      have Z := C.clss k (List.contains_iff_mem.mp h3)
      obtain ⟨f0, fd, ps, m1, m2, m3⟩ := C.inis k f (List.contains_iff_mem.mp h4)
      obtain ⟨f1, fd1, ps1, n1, n2, n3⟩ := C.mths k m hh (List.contains_iff_mem.mp h5)
      obtain ⟨a1, a2⟩ := sndEs as C tk h7
      obtain ⟨b1, b2⟩ := sndEs bs C tk h8
      exact ⟨bothM_val (m_mk Z.cls m1 m2 m3 C.room (C.gl h2) Z.mg (glB_dbg h2) n1 n2 C.room n3 tk (fun z => by rw [List.contains_iff_mem.mpr z] at h6; cases h6) a1 a2 b1 b2 h9 h10) fun _ => rfl, rfl⟩
    · cases h
  | .tup ms, X, L, W, x, C, tk, h => by
    unfold chkM at h
    simp only [evM]
    cases x with
    | Tuple xs k p =>
      dsimp only at h
      rw [Bool.and_eq_true, decide_eq_true_eq] at h
      obtain ⟨h1, h2⟩ := sndMs ms C tk h.1
      exact ⟨bothM_val (m_tup h1 h.2 fun env ds e q => evMs_len h.1 q) fun _ => rfl, rfl⟩
    | _ => cases h
  | .not m, X, L, W, x, C, tk, h => by
    unfold chkM at h
    simp only [evM]
    cases x with
    | UnaryOp op xa p => cases op with
      | Not => exact ⟨m_not (sndM m C tk h).1, rfl⟩
      | _ => cases h
    | _ => cases h
  | .and a b, X, L, W, x, C, tk, h => by
    unfold chkM at h
    simp only [evM]
    split at h
    · rw [Bool.and_eq_true] at h
      exact ⟨m_and (sndM a C tk h.1).1 (sndM b C tk h.2).1, rfl⟩
    · cases h
  | .or a b, X, L, W, x, C, tk, h => by
    unfold chkM at h
    simp only [evM]
    split at h
    · rw [Bool.and_eq_true] at h
      exact ⟨m_or (sndM a C tk h.1).1 (sndM b C tk h.2).1, rfl⟩
    · cases h
  | .cmp o m e, X, L, W, x, C, tk, h => by
    unfold chkM at h
    simp only [evM]
    split at h
    · simp only [Bool.and_eq_true, decide_eq_true_eq] at h
      obtain ⟨⟨⟨h0, hs⟩, h1⟩, h2⟩ := h
      subst h0
      exact ⟨m_cmp C.un (marks_of hs) (sndM m C tk h1).1.pe (sndE e C tk h2).1.pe, rfl⟩
    · cases h
  | .ind m j, X, L, W, x, C, tk, h => by
    unfold chkM at h
    simp only [evM]
    split at h
    · simp only [Bool.and_eq_true, decide_eq_true_eq] at h
      obtain ⟨⟨⟨h1, h2⟩, h3⟩, h4⟩ := h
      subst h1
      exact ⟨m_ind (C.dvs _ _ (List.contains_iff_mem.mp h3)) (C.gl h2) (glB_dbg h2) (sndM m C tk h4).1.pe, rfl⟩
    · cases h
  | .cl i f a, X, L, W, x, C, tk, h => by
    unfold chkM at h
    simp only [evM]
    split at h
    · rename_i y yp xa z zp pos
      simp only [Bool.and_eq_true, decide_eq_true_eq] at h
      obtain ⟨⟨⟨⟨h1, h2⟩, h3⟩, h4⟩, h5⟩ := h
      have hv := h4
      unfold visB at hv
      rw [Bool.and_eq_true] at hv
      have dd := dbg_of hv.2
      obtain ⟨f0, fd, ps, m1, m2, m3, m4⟩ := C.lfs _ _ (List.contains_iff_mem.mp h2)
      obtain ⟨a1, a2⟩ := sndE a C tk h5
      exact ⟨bothM_val (m_cl m4 (C.room.mono (by omega)) (C.gl h1) m1 m2 m3 tk (glB_dbg h1) a2 a1 (pe_var (by rw [C.hN]; exact h3) (C.vis h4) dd.1 dd.2)) fun _ => rfl, rfl⟩
    · cases h
  | .call f ms, X, L, W, x, C, tk, h => by
    unfold chkM at h
    simp only [evM]
    split at h
    · rw [Bool.and_eq_true, Bool.and_eq_true, List.contains_iff_mem] at h
      obtain ⟨⟨h1, h2⟩, h3⟩ := h
      obtain ⟨f0, fd, ps, m1, m2, m3, m4⟩ := C.fns _ _ h2
      obtain ⟨a1, a2⟩ := sndMs ms C tk h3
      exact ⟨bothM_val (m_def m4 (C.room.mono (by omega)) (C.gl h1) m1 m2 m3 tk (glB_dbg h1) a2 a1) fun _ => rfl, rfl⟩
    · cases h
  | .bf f ms, X, L, W, x, C, tk, h => by
    unfold chkM at h
    simp only [evM]
    split at h
    · rw [Bool.and_eq_true, Bool.and_eq_true, decide_eq_true_eq] at h
      obtain ⟨⟨h1, h2⟩, h3⟩ := h
      subst h1
      obtain ⟨a1, a2⟩ := sndMs ms C tk h3
      refine ⟨bothM_val (m_bf C.calm (C.gl h2) (C.blt _ ?_) a2 a1) fun _ => rfl, rfl⟩
      cases f <;> simp [blts, bfName]
    · cases h
  | .lcm i m it, X, L, W, x, C, tk, h => by
    unfold chkM at h
    simp only [evM]
    split at h
    · rename_i xe xt xi as scope p
      simp only [Bool.and_eq_true, decide_eq_true_eq] at h
      obtain ⟨⟨⟨⟨⟨⟨hT, h0⟩, h1⟩, h2⟩, h4⟩, h5⟩, h7⟩ := h
      subst h0
      obtain ⟨i1, i2⟩ := sndI (W := W) it C tk h5 (fun hm => by cases hm)
      obtain ⟨k1, k2⟩ := C.htop hT
      refine ⟨bothM_val (PE.imp (pe_lcX (te := fun V => rdM X.K ca V fun env => evM (evc T n) env m) C.calm C.nd tk k1 k2 i1 (by rw [C.hN, C.hsc]; exact blkOk_by h2) (fun s H Ca cl fp xe => (C.blkx (s := s) (H := H) (scope := scope) (cl := cl) (Ca := Ca) (fp := fp) (xe := xe)).pg h4) (fun _ _ _ _ _ _ => pts_nil) (fun V s H Ca cl fp xe tk => (sndM m (C.blkx (s := s) (H := H) (scope := scope) (cl := cl) (Ca := Ca) (fp := fp) (xe := xe)) tk h7).1.pe) i2) fun σ H Q hh => ?_) fun _ => rfl, rfl⟩
      rw [h1]
      exact lcm_read hh
    · cases h
theorem sndMs : ∀ (ms : Ms) {X : Cx} {L : Lx} {W : WX} {xs : List Expr}, CxOk T g ca n L X → L2N.Takes X W → chkMs g ms L xs = true → PA X xs (rdMs X.K ca W fun env => evMs (evc T n) env ms) ∧ xs.all notStar = true
  | .nil, X, L, W, xs, C, tk, h => by
    unfold chkMs at h
    simp only [evMs]
    cases xs with
    | nil => exact ⟨m_nil, rfl⟩
    | cons _ _ => cases h
  | .cons m ms, X, L, W, xs, C, tk, h => by
    unfold chkMs at h
    simp only [evMs]
    cases xs with
    | nil => cases h
    | cons x xs =>
      dsimp only at h
      rw [Bool.and_eq_true] at h
      obtain ⟨a1, a2⟩ := sndM m C tk h.1
      obtain ⟨b1, b2⟩ := sndMs ms C tk h.2
      exact ⟨m_cons a2 a1.pe b1, by rw [List.all_cons, a2, b2]; rfl⟩
end
end
end Cw

set_option Elab.async false
set_option linter.all false
set_option maxRecDepth 100000
set_option maxHeartbeats 4000000
/-! exceptions that carry a word: made, raised, caught -/
namespace L2N
open PySem PySem.Spec PyProof.Rows L2
section
variable {X : Cx} {o e : Expr} {es : List Expr} {to te : TE} {ta : TA} {p pos : Pos}
/-- C(e, ..) with C's own __init__: nothing stands behind it -/
theorem pmk_oexN {x : Str} {C fI : Addr} {k : Nat} {fd : FuncData} {ps : List Str} {sp : Sp} (T : OexC X.K C) (iC : PySem.W.findIn X.K (.ref C) "__init__" = some (some (.ref fI))) (tI : PySem.W.typeIn X.K (.ref fI) = some (.type "function"))
    (F1 : FnOk X.prog X.w X.K X.mg X.base (L2N.CX X.prog X.w) k fI fd ps sp) (hr : Room (k + 1) X.A) (hb : Binds X.K fd ps []) (hg : Gl X x) (hm : X.mg x = some (.ref C)) (ha : PA X (e :: es) ta)
    (hdb : (x == ("__debug__" : Str)) = false) (he : starEach (e :: es) X.env = (false, eval e X.env) :: starEach es X.env) (hpl : (backTo pos (starEach es X.env)).any (·.1) = false) :
    PMk X (.Call (.Name x p) (e :: es) [] pos) (tMkO C sp [] ta) := by
  intro pins s σ H Q I h
  obtain ⟨nm, q, N, bs, bm, sn, sub, ab, col, dd, k0, k1, k2, k3, k5, hC, hbm⟩ := T.cls
  refine wpAny_Call_Name_kw (ld_glob I hg hm ?_ hdb)
  refine PySem.W.callWith_K (h₀ := X.base) I.ok.mod.kin T.kC (thn (ha.run pos pins s σ H _ I h) fun us s1 ⟨vs, H1, I1, r1, hz, q1⟩ => ⟨I1.kIn, ?_⟩) he hpl
  show wpAny _ _ (call (.ref C) us) _ _ _
  obtain ⟨hp, g, dr, tk, os⟩ := s1
  have hsz : hp.objs.size ≤ hp.objs.size + 1 := Nat.le_succ _
  have hq := q1 (hp.objs.size + 1) (I1.hok.fresh hsz)
  have kk : ∀ b o, hp.get? b = some o → ((hp.push (PySem.W.kdv_tup us)).push (PySem.HandSPX.excO C hp.objs.size)).get? b = some o := fun b o e => Heap.get?_push_of_some _ (Heap.get?_push_of_some _ e)
  have hget : ((hp.push (PySem.W.kdv_tup us)).push (PySem.HandSPX.excO C hp.objs.size)).get? (hp.objs.size + 1) = some (PySem.HandSPX.excO C hp.objs.size) := by heap_get
  have I2 : Inv X pins σ (upd H1 (hp.objs.size + 1) (exo (hp.objs.size + 1) C none)) ⟨(hp.push (PySem.W.kdv_tup us)).push (PySem.HandSPX.excO C hp.objs.size), g, dr, tk, os⟩ :=
    I1.laid (t' := tk) (a := hp.objs.size + 1) (o := exo (hp.objs.size + 1) C none) (h' := (hp.push (PySem.W.kdv_tup us)).push (PySem.HandSPX.excO C hp.objs.size)) kk hsz (exo_ok hget)
  have r2 : Vals (V.ref (hp.objs.size + 1) :: (vs ++ [])) (Value.ref (hp.objs.size + 1) :: us) := by
    rw [List.append_nil]; exact .cons rfl r1
  have hl : (Value.ref (hp.objs.size + 1) :: us ++ []).length = ps.length := by
    have e := r2.length
    rw [F1.len _ _ _ _ hq] at e
    rw [List.append_nil]
    exact e.symm
  have b := hb _ (Value.ref (hp.objs.size + 1) :: us) I2.kIn hl
  rw [List.append_nil] at b
  have hus : us.length ≤ sizeLine := by
    rw [← Paired.length r1, sizeLine_eq]
    omega
  refine wpAny_call (PySem.HandSPX.call_own F.excBase_ValueError (fun Y => PySem.HandSPX.refsVE_contains Y bm hbm) (I1.kIn _ _ hC) (PySem.W.looks_findIn I1.kIn iC) (fun self => PySem.W.bind_fn I1.kIn self tI) hus
    (codeAny_mono (F1.run _ X.stack _ _ ⟨Value.ref (hp.objs.size + 1) :: us, []⟩ (Value.ref (hp.objs.size + 1) :: us) _ _ (fun _ _ _ => False) (hr.make C us []) (I2.env0.make C us []) b r2 hq) fun r s' hq' => ?_))
  cases r with
  | error er =>
    obtain ⟨_, _, _, _, _, _, _, _, _, _, _, _, z⟩ := hq'
    exact z.elim
  | ok fl =>
    cases fl with
    | ret u =>
      obtain ⟨v, H2, os2, bare2, un2, hok2, rv, ev, d, fs, ea, ed, hd1, q2⟩ := hq'
      subst ev
      obtain ⟨h2, g2, d2, t2, os'⟩ := s'
      obtain ⟨t0, G, J, kG, ge, hoe, na⟩ := mk_end0 (d2 := d2) (t2 := t2) I1 hsz kk un2 hok2 os2 bare2 ea ed hd1
      exact ⟨rv, hp.objs.size + 1, _, _, ⟨G, g2, d2, t2, os'⟩, _, .ref C, some d, rfl, J, kG, ge, hoe, ⟨rfl, rfl, fun vs hv => by cases hv; rfl⟩, rfl, rfl, na, rfl, bare2, raises_own T.exC T.tyC, q2⟩
    | next => exact False.elim hq'
    | brk => exact False.elim hq'
    | cont => exact False.elim hq'
end
/-- the first clause names the exception, more clauses behind it -/
def wAsMany (K : PySem.W.Frag) (c : Value) (i : Nat) (ts : Addr → Value → Option Addr → TS) (Wout : WX) (D : Ends) (l : List (Value × (Addr → Value → Option Addr → TS))) : WX := wAs K c i ts (wMany K Wout D l) D
section
variable {X : Cx} {x n : Str} {c : Value} {i : Nat} {body suite orelse : List Stmt} {b₀ : Stmt} {np pos pos' : Pos} {tb : WX → TS} {ts : Addr → Value → Option Addr → TS} {u : TS} {Wout : WX} {hds : List ExceptHandler} {l : List (Value × (Addr → Value → Option Addr → TS))}
theorem ps_try_asMany (ho : PSs X orelse u) (hs : X.stack = X.env :: X.outer) (hf : X.env.frame = some X.env.locals) (hN : X.N.Nodup) (hi : X.N[i]? = some n) (hln : X.env.kindOf n = some .local) (hc : Names X x c) (tk : Takes X Wout)
    (hb : ∀ (W : WX) (pn : List (Addr × Obj)) (xe : Value → Shared → Prop), Takes (X.tr pn xe) W → PassesOwn (model X.prog X.w) X.A X.env xe → PSs (X.tr pn xe) body (tb W))
    (hsu : ∀ (a : Addr) (oe : Obj) (cls : Value) (d : Option Addr) (pn : List (Addr × Obj)), Zn cls d oe → (∃ vs, oe.data = .fields vs) → PSs (X.suite a ((a, oe) :: pn)) (b₀ :: suite) (ts a cls d)) (hh : HdsOk X hds l) :
    PS X (.Try body (.ExceptHandler (some (.Name x np)) (some n) (b₀ :: suite) pos' :: hds) orelse [] pos) (fun D σ H => tb (wAsMany X.K c i ts Wout D l) { D with nx := u D } σ H) := by
  refine ⟨fun pins s σ H D I h => ?_⟩
  have ok := I.ok
  have hfr : X.A.frames = some (X.env :: X.outer) := by rw [ok.frames, hs]
  have hloc : Loc X.env.scope n := .inl hln
  refine wpAny_Try_except ?_
  refine wpAny_mono ((hb (wAsMany X.K c i ts Wout D l) (X.pn ++ pins) (fun e s₁ => wpAny (model X.prog X.w) X.A (noteFrame e X.env) (fun _ s₂ => wpAny (model X.prog X.w) X.A (setFlight e none) (fun _ s₃ =>
    wpAny (model X.prog X.w) X.A (handleBy e X.env (.ExceptHandler (some (.Name x np)) (some n) (b₀ :: suite) pos' :: hds)) (SP X pins D) X.xe s₃) X.xe s₂) X.xe s₁) (fun u s' xx => ?_) PassesOwn.looking).run [] s σ H { D with nx := u D } (I.toTry _) h) (fun f s1 hsp => ?_) (fun e s1 he => he)
  · obtain ⟨a, B, sI, pins', σ', H', cls, d, rfl, J', nb, up, sky, na, os, ag, w⟩ := xx
    have J : Inv X pins σ' H' sI := J'.ofTry ok
    have sky' : Sky B (X.env :: X.outer) a (Zn cls d) X.env.locals s'.heap := by rw [← hs]; exact sky
    show wpAny (model X.prog X.w) X.A (noteFrame (.ref a) X.env) _ _ _
    refine Sky.land Zn.steady hfr hf sky' fun h3 fl3 up3 => ?_
    have J3 : Inv X pins σ' H' { s' with heap := h3 } := J.landed nb fl3.1 (up.trans up3) os ag
    obtain ⟨oe3, vs3, he3, hz3, hd3⟩ := fl3.there
    have nfr : a ∉ frs (X.env :: X.outer) := fun hm => by
      obtain ⟨_, o', e', hnf⟩ := fl3.2.2.1.mem hm
      rw [he3] at e'; cases e'
      exact hnf _ hd3
    have nL : a ≠ X.env.locals := fun z => nfr (List.mem_filterMap.mpr ⟨X.env, List.mem_cons_self, by rw [hf, z]⟩)
    have nF : a ∉ X.fs := fun hm => by
      obtain ⟨e, he, q⟩ := List.mem_filterMap.mp hm
      exact nfr (List.mem_filterMap.mpr ⟨e, List.mem_cons_of_mem _ he, q⟩)
    have S3 := J3.suite he3 hd3 na nL nF
    have LT : PySem.W.Looks (model X.prog X.w) h3 (typeOf (.ref a)) cls := fun A Q E s k q => wpAny_typeOf_ref (k _ _ he3) (by rw [hz3.1]; exact q)
    have test : ∀ {y : Str} {np : Pos} {c2 : Value} {Q : Value → Shared → Prop} {E : Value → Shared → Prop}, Names X y c2 → Q c2 { s' with heap := h3 } → wpAny (model X.prog X.w) (X.A.mark (some (.ref a))) (eval (.Name y np) X.env) Q E { s' with heap := h3 } := fun {y np c2 Q E} hc q => by
      obtain ⟨hg, hdbg, hm | ⟨hm, hv, hnn⟩⟩ := hc
      · exact ld_glob (X := X.suite a ((a, oe3) :: (X.pn ++ pins))) S3 hg hm q hdbg
      · exact ld_blt (X := X.suite a ((a, oe3) :: (X.pn ++ pins))) S3 hg hm hv q hnn hdbg
    have go : ∀ {hds' : List ExceptHandler} {l' : List (Value × (Addr → Value → Option Addr → TS))}, HdsOk X hds' l' → wMany X.K Wout D l' cls d σ' H' →
        wpAny (model X.prog X.w) X.A (handleBy (.ref a) X.env hds') (SP X pins D) X.xe { s' with heap := h3 } := by
      intro hds' l' hk
      induction hk with
      | nil =>
        intro w
        refine wpAny_handleBy_nil ?_
        obtain ⟨k1, k2, k3, oe, vs, T, oT, ts', he, hz, hd, h1, hr⟩ := id fl3
        unfold PySem.passOn
        refine wpAny_bind (wpAny_field he hd h1 ?_)
        rw [if_neg (show ¬ ((Value.ref T == Value.none) = true) from by simp)]
        have fin : wpAny (model X.prog X.w) X.A (setFlight (.ref a) X.env.frame) (fun _ s4 => wpAny (model X.prog X.w) X.A (throw (.ref a) : Sem Flow) (SP X pins D) X.xe s4) X.xe { s' with heap := h3 } := by
          rw [hf]
          refine HandSPX.setFlight_upZ fl3 fun h4 hh4 up4 => wpAny_throw (tk _ _ ?_)
          exact ⟨a, B, sI, pins, σ', H', cls, d, rfl, J, nb, (up.trans up3).trans up4, .inr (.inr (by rw [hs]; exact hh4)), na, os, ag, w⟩
        first
          | exact wpAny_bind (wpAny_pure (wpAny_bind fin))
          | exact wpAny_bind fin
      | @cons x2 c2 ts2 b2 suite2 np2 pos2 hds2 l2 hc2 hsu2 r ih =>
        intro w
        obtain ⟨b, hb1, hyes, hno⟩ := w
        refine wpAny_handleBy_cons (codeAny_handlers_test ?_) (by intro q; cases q)
        refine test hc2 ((PySem.W.exm_one (M := model X.prog X.w) (J3.kIn) LT hb1).here ?_)
        cases b with
        | true =>
          refine codeAny_handlers_suite ?_
          refine HandSPX.lands_againZ fl3 fun h4 fl4 up4 => ?_
          have J4 : Inv X pins σ' H' { s' with heap := h4 } := J.landed nb fl4.1 ((up.trans up3).trans up4) os ag
          obtain ⟨oe4, vs4, he4, hz4, hd4⟩ := fl4.there
          refine wpAny_mono ((hsu2 a oe4 cls d (X.pn ++ pins) hz4 ⟨_, hd4⟩).run [] _ _ H' _ (J4.suite he4 hd4 na nL nF) (hyes rfl a na)) (fun f s6 hsp => ?_) (fun _ _ z => False.elim z)
          cases f with
          | next =>
            obtain ⟨σ6, H6, S6, q6⟩ := hsp
            exact ⟨_, _, S6.unsuite ok, q6⟩
          | brk =>
            obtain ⟨σ6, H6, S6, q6⟩ := hsp
            exact ⟨_, _, S6.unsuite ok, q6⟩
          | cont =>
            obtain ⟨σ6, H6, S6, q6⟩ := hsp
            exact ⟨_, _, S6.unsuite ok, q6⟩
          | ret u =>
            obtain ⟨v6, σ6, H6, S6, r6, q6⟩ := hsp
            exact ⟨_, _, _, S6.unsuite ok, r6, q6⟩
        | false =>
          show wpAny _ X.A (handleBy (.ref a) X.env hds2) _ _ _
          exact ih (hno rfl)
    obtain ⟨b, hb1, hyes, hno⟩ := w
    refine wpAny_handleBy_cons (codeAny_handlers_test ?_) (by intro q; cases q)
    refine test hc ((PySem.W.exm_one (M := model X.prog X.w) (J3.kIn) LT hb1).here ?_)
    cases b with
    | true =>
      refine codeAny_handlers_suite_as ?_
      refine HandSPX.lands_againZ fl3 fun h4 fl4 up4 => ?_
      have J4 : Inv X pins σ' H' { s' with heap := h4 } := J.landed nb fl4.1 ((up.trans up3).trans up4) os ag
      obtain ⟨oe4, vs4, he4, hz4, hd4⟩ := fl4.there
      refine store_ok (X := X.suite a ((a, oe4) :: (X.pn ++ pins))) (v := .ref a) (J4.suite he4 hd4 na nL nF) hN hi hloc rfl (fun s5 S5 => ?_) (.inr hln)
      refine wpAny_mono ((hsu a oe4 cls d (X.pn ++ pins) hz4 ⟨_, hd4⟩).run [] s5 _ H' _ S5 (hyes rfl a na)) (fun f s6 hsp => ?_) (fun _ _ z => False.elim z)
      have end_ : ∀ {σ6 : St} {H6 : Hp} {Q : Shared → Prop}, Inv (X.suite a ((a, oe4) :: (X.pn ++ pins))) [] σ6 H6 s6 → (∀ s7, Inv X pins (σ6.set i none) H6 s7 → Q s7) →
          wpAny (model X.prog X.w) X.A (do bindName X.env n .none; unbindBehindTheSuite X.env n pos') (fun _ s7 => Q s7) X.xe s6 := fun {σ6 H6 Q} S6 hq => gone_ok (S6.unsuite ok) hN hi hln hq
      cases f with
      | next =>
        obtain ⟨σ6, H6, S6, q6⟩ := hsp
        exact end_ S6 fun s7 J7 => ⟨_, _, J7, q6⟩
      | brk =>
        obtain ⟨σ6, H6, S6, q6⟩ := hsp
        exact end_ S6 fun s7 J7 => ⟨_, _, J7, q6⟩
      | cont =>
        obtain ⟨σ6, H6, S6, q6⟩ := hsp
        exact end_ S6 fun s7 J7 => ⟨_, _, J7, q6⟩
      | ret u =>
        obtain ⟨v6, σ6, H6, S6, r6, q6⟩ := hsp
        exact end_ S6 fun s7 J7 => ⟨_, _, _, J7, r6, q6⟩
    | false =>
      show wpAny _ X.A (handleBy (.ref a) X.env hds) _ _ _
      exact go hh (hno rfl)
  · cases f with
    | next =>
      obtain ⟨σ', H', J', q⟩ := hsp
      exact ho.run pins s1 σ' H' D (J'.ofTry ok) q
    | brk =>
      obtain ⟨σ', H', J', q⟩ := hsp
      exact ⟨σ', H', J'.ofTry ok, q⟩
    | cont =>
      obtain ⟨σ', H', J', q⟩ := hsp
      exact ⟨σ', H', J'.ofTry ok, q⟩
    | ret u =>
      obtain ⟨v, σ', H', J', r, q⟩ := hsp
      exact ⟨v, σ', H', J'.ofTry ok, r, q⟩
end
end L2N

namespace Cw
open PySem PySem.Spec PyProof.Rows L2
/-- the class whose exceptions carry a word -/
def refE : Str := "Refused"
/-- what its maker promises -/
def spRI (C : Addr) : Sp := fun vs H Q _ => ∃ a w, vs = [.ref a, .str w] ∧ H a = some (exo a C none) ∧ ∀ dx, H dx = none → dx ≠ a → Q .non (upd (upd H dx (exd dx [("word", .str w)])) a (exo a C (some dx)))
structure RefK (ca : Str → Value) (K : PySem.W.Frag) (mg : Str → Option Value) (C fI : Addr) : Prop where
  mg : mg refE = some (.ref C)
  caR : ∀ c, isRef c = true → ca c = .ref C
  T : OexC K C
  iC : PySem.W.findIn K (.ref C) "__init__" = some (some (.ref fI))
  tI : PySem.W.typeIn K (.ref fI) = some (.type "function")
  xf : XfC K C
  no : PySem.W.findIn K (.ref C) "word" = some none
  e1 : PySem.W.exmOne K (.ref C) (.ref C) = some true
  e2 : ∀ c, isRef c = false → PySem.W.exmOne K (ca c) (.ref C) = some false
structure RefOk (ca : Str → Value) (X : Cx) (C fI : Addr) (fd : FuncData) (ps : List Str) : Prop where
  k : RefK ca X.K X.mg C fI
  F : FnOk X.prog X.w X.K X.mg X.base (L2N.CX X.prog X.w) 30 fI fd ps (spRI C)
  b : Binds X.K fd ps []
/-- the maker of such a class: self.word = word -/
def refB (scope : Scope) (body : List Stmt) : Bool := decide (scope.names.lookup ("self" : Str) = some NameKind.local) && decide (scope.names.lookup ("word" : Str) = some NameKind.local) && (match body with
  | [.Assign [.Attribute (.Name s _) f _] (.Name w _) _] => decide (s = ("self" : Str)) && decide (f = ("word" : Str)) && decide (w = ("word" : Str))
  | _ => false)
theorem ref_fn {ca : Str → Value} {P : Program} {w : World} {K : PySem.W.Frag} {mg : Str → Option Value} {base : Heap} {C fI : Addr} {fd : FuncData} {x q0 : Str} {as : List Arg} {body : List Stmt} {scope : Scope} (R : RefK ca K mg C fI)
    (F : FunD K x q0 ⟨[], as, none, [], [], none, []⟩ body scope [] [] fI fd) (S : FnScope (["self", "word"] : List Str) (as.map (·.arg)) scope) (ea : as.map (·.arg) = (["self", "word"] : List Str)) (hb : refB scope body = true) :
    FnOk P w K mg base (L2N.CX P w) 30 fI fd (as.map (·.arg)) (spRI C) := by
  refine F.ok (k := 29) S (fun vs H Q E ⟨a, z, e, _⟩ => by rw [e, ea]; rfl) fun cdv A outer s H vs Q E hr ⟨a, z, ev, h1, h2⟩ => ?_
  subst ev
  unfold refB at hb
  simp only [Bool.and_eq_true, decide_eq_true_eq] at hb
  obtain ⟨⟨b1, b2⟩, b3⟩ := hb
  split at b3
  · simp only [Bool.and_eq_true, decide_eq_true_eq] at b3
    obtain ⟨⟨c1, c2⟩, c3⟩ := b3
    subst c1 c2 c3
    refine ⟨_, pss_one (ps_ost (pe_var (i := 0) rfl (.inl b1)) (pe_var (i := 1) rfl (.inl b2)) rfl), ?_⟩
    exact ⟨.str z, rfl, .ref a, rfl, a, C, rfl, R.T, R.no, .inl ⟨h1, fun dx d1 d2 => h2 dx d1 d2⟩⟩
  · cases b3
end Cw

set_option Elab.async false
set_option linter.all false
set_option maxRecDepth 100000
set_option maxHeartbeats 4000000
namespace Cw
open PySem PySem.Spec PyProof.Rows L2

/-! ### the look at statements -/
def notComp : Expr → Bool
  | .ListComp _ _ _ _ => false
  | .SetComp _ _ _ _ => false
  | .DictComp _ _ _ _ _ => false
  | _ => true
def notTup : Expr → Bool
  | .Tuple _ _ _ => false
  | _ => true
def swapB (L : Lx) (x : Str) (px : Pos) : Expr → Bool
  | .ListComp _ _ scope lp => (kindB L x .local && ((px.line == lp.line) && !(scope.names.any fun (n, k) => n == x && (k == .local || k == .cell)))) || !kindB L x .local
  | e => notComp e
def isLst : E → Bool
  | .lst _ => true
  | .lc _ _ _ _ _ => true
  | .bin .add _ b => isLst b
  | _ => false
def isLc : E → Bool
  | .lc _ _ _ _ _ => true
  | _ => false
/-- the end of a method that tells nothing -/
def isEnd : Ss → Bool
  | .cons (.retM (.e (.k .none))) .nil => true
  | _ => false
/-- a written dict, changed by another one, asked once -/
def chk3 (g : Gm) : Ss → Lx → List Stmt → Bool
  | .cons (.dct3 i ks es ks2 es2 a) .nil, L, [.Assign [.Name y _] (.Dict keys xs _) _, .Expr (.Call (.Attribute (.Name y2 _) at_ ap) [.Dict keys2 xs2 _] [] cp) _, .Return (some (.Subscript (.Name y3 _) xa _)) _] =>
    !L.me && tgB L i y && decide (y2 = y) && decide (y3 = y) && visB L y && decide (at_ = ("update" : Str)) && (ap.endLine == cp.line) && notSlice xa
      && keysB ks keys && !ks.isEmpty && decide (ks.length ≤ 15) && decide (ks.length = xs.length) && chkEs g es L xs
      && keysB ks2 keys2 && !ks2.isEmpty && decide (ks2.length ≤ 15) && decide (ks2.length = xs2.length) && chkEs g es2 L xs2
      && decide (ks ++ ks2).Nodup && chkE g a L xa
  | _, _, _ => false
def hdB (ex : List Str) (L : Lx) (q : Str × Str) : ExceptHandler → Bool
  | .ExceptHandler (some (.Name y _)) none [.Return (some val) _] _ => decide (y = q.1) && ex.contains q.1 && glB L y && chkK (.str q.2) val
  | _ => false
def hdsB (ex : List Str) (L : Lx) : List (Str × Str) → List ExceptHandler → Bool
  | [], [] => true
  | q :: hs, h :: hds => hdB ex L q h && hdsB ex L hs hds
  | _, _ => false
mutual
def chkS (g : Gm) (ex : List Str) : S → Lx → Stmt → Bool
  | .asg i _ e, L, x => (match x with
    | .Assign [.Name y py] val _ => tgB L i y && swapB L y py val && chkE g e L val
    | _ => false)
  | .asgL i _ e, L, x => (match x with
    | .Assign [.Name y py] val _ => tgB L i y && swapB L y py val && chkE g e L val && isLst e
    | _ => false)
  | .asgT l _ e, L, x => (match x with
    | .Assign [.Tuple ts k p] val _ => chkTs L l ts && notComp val && notTup val && chkE g e L val
    | _ => false)
  | .par i j _ a b, L, x => (match x with
    | .Assign [.Tuple [.Name y py, .Name z pz] _ _] (.Tuple [xa, xb] _ _) _ => decide (L.N[i]? = some y) && decide (L.N[j]? = some z) && decide (i ≠ j) && kindB L y .local && kindB L z .local && (py.line == pz.line) && decide (y ≠ z)
        && !(foldedForSure 8 xa && foldedForSure 8 xb) && !(constantsAlone 8 xa && constantsAlone 8 xb) && chkE g a L xa && chkE g b L xb
    | _ => false)
  | .parL i j _ a b, L, x => (match x with
    | .Assign [.Tuple [.Name y py, .Name z pz] _ _] (.Tuple [xa, xb] _ _) _ => decide (L.N[i]? = some y) && decide (L.N[j]? = some z) && decide (i ≠ j) && kindB L y .local && kindB L z .local && (py.line == pz.line) && decide (y ≠ z)
        && !(foldedForSure 8 xa && foldedForSure 8 xb) && !(constantsAlone 8 xa && constantsAlone 8 xb) && chkE g a L xa && chkE g b L xb && isLst a
    | _ => false)
  | .ret _ e, L, x => (match x with
    | .Return (some y) _ => !L.me && chkE g e L y
    | _ => false)
  | .self _, _, _ => false
  | .selfI _, _, _ => false
  | .asgM i m, L, x => (match x with
    | .Assign [.Name y py] val _ => tgB L i y && chkM g m L val && (notComp val || (swapB L y py val && (match m with | .lcm _ _ _ => true | _ => false)))
    | _ => false)
  | .retM m, L, x => (match x with
    | .Return (some y) _ => L.me && chkM g m L y
    | _ => false)
  | .retP m, L, x => (match x with
    | .Return (some y) _ => !L.me && chkM g m L y
    | _ => false)
  | .iffM m a b, L, x => (match x with
    | .If xc xa xb _ => chkM g m L xc && chkSs g ex a L xa && chkSs g ex b L xb
    | _ => false)
  | .whlM m b, L, x => (match x with
    | .While xc xb [] _ => chkM g m L xc && chkSs g ex b L xb
    | _ => false)
  | .exprM m, L, x => (match x with
    | .Expr y _ => notComp y && chkM g m L y
    | _ => false)
  | .fld i k j m, L, x => (match x with
    | .Assign [.Attribute (.Name y _) f _] val _ => decide (L.N[i]? = some y) && visB L y && g.clss.contains k && decide ((clsF k)[j]? = some f) && chkM g m L val && !isDk k
    | _ => false)
  | .new i k f ms, L, x => (match x with
    | .Assign [.Name y py] (.Call (.Name z _) [] [] _) _ => tgB L i y && decide (z = clsN k) && glB L z && g.clss.contains k && g.inis.contains (k, f) && (match ms with | .nil => true | _ => false)
    | .Assign [.Name y py] (.Call (.Name z _) (xe :: xs) [] _) _ => tgB L i y && decide (z = clsN k) && glB L z && g.clss.contains k && g.inis.contains (k, f) && chkMs g ms L (xe :: xs)
    | _ => false)
  | .iff _ c a b, L, x => (match x with
    | .If xc xa xb _ => chkE g c L xc && chkSs g ex a L xa && chkSs g ex b L xb
    | _ => false)
  | .whl _ c b, L, x => (match x with
    | .While xc xb [] _ => chkE g c L xc && chkSs g ex b L xb
    | _ => false)
  | .for_ _ t it b, L, x => (match x with
    | .For xt xi xb [] _ => chkT L t xt && chkI g it L t xi && chkSs g ex b L xb
    | _ => false)
  | .app i ms e, L, x => (match x with
    | .Expr (.Call (.Attribute (.Name y _) at_ ap) [xe] [] cp) _ => decide (at_ = ("append" : Str)) && (ap.endLine == cp.line) && decide (L.N[i]? = some y) && visB L y && !ms.contains i && chkE g e L xe
    | _ => false)
  | .ext i ms e, L, x => (match x with
    | .Expr (.Call (.Attribute (.Name y _) at_ ap) [xe] [] cp) _ => decide (at_ = ("extend" : Str)) && (ap.endLine == cp.line) && decide (L.N[i]? = some y) && visB L y && !ms.contains i && isLc e && chkE g e L xe
    | _ => false)
  | .popT l i, L, x => (match x with
    | .Assign [.Tuple ts k p] (.Call (.Attribute (.Name y _) at_ ap) [] [] cp) _ => decide (at_ = ("pop" : Str)) && (ap.endLine == cp.line) && decide (L.N[i]? = some y) && visB L y && chkTs L l ts
    | _ => false)
  | .setC i a b, L, x => (match x with
    | .Assign [.Subscript (.Name y _) (.Constant (.int ca) _ _) _] (.Subscript (.Name y2 _) (.Constant (.int cb) _ _) _) _ => decide (L.N[i]? = some y) && decide (y2 = y) && visB L y && decide (ca = (a : Int)) && decide (cb = (b : Int))
    | _ => false)
  | .setX i ms a e, L, x => (match x with
    | .Assign [.Subscript (.Name y _) xa _] xe _ => decide (L.N[i]? = some y) && visB L y && notSlice xa && notComp xe && notTup xe && chkE g a L xa && chkE g e L xe
    | _ => false)
  | .asgU l _ e, L, x => (match x with
    | .Assign [.Tuple ts k p] val _ => chkTs L l ts && notComp val && notTup val && chkE g e L val
    | _ => false)
  | .rais c, L, x => (match x with
    | .Raise (some (.Call (.Name y _) [.Constant (.str _) _ _] [] _)) none _ => decide (y = c) && ex.contains c && glB L y && !isRef c
    | _ => false)
  | .tryN b c i d, L, x => (match x with
    | .Try xb [.ExceptHandler (some (.Name y _)) none [.Assign [.Name z _] val _] _] [] [] _ => decide (y = c) && ex.contains c && glB L y && chkSs g ex b L xb && tgB L i z && chkK d val
    | _ => false)
  | .tryW b i k, L, x => (match x with
    | .Try xb [.ExceptHandler (some (.Name y _)) (some en) [.Return (some (.Call (.Name f _) [.Name e2 _] [] _)) _] _] [] [] _ => !L.me && decide (y = Str.ofString "CloseError") && glB L y && chkSs g ex b L xb && decide (e2 = en) && decide (L.N[i]? = some en) && kindB L en .local && visB L en && g.wrds.contains (f, k) && glB L f && !isTr k
    | _ => false)
  | .tryT b i k o w, L, x => (match x with
    | .Try xb [.ExceptHandler (some (.Name y _)) (some en) [.Return (some (.Subscript (.List [.Constant (.str o2) _ _, .Constant (.str w2) _ _] _) (.Call (.Name ni _) [.Call (.Name f _) [.Name e2 _] [] _] [] _) _)) _] _] [] [] _ => !L.me && decide (y = Str.ofString "CloseError") && glB L y && chkSs g ex b L xb && decide (e2 = en) && decide (L.N[i]? = some en) && kindB L en .local && visB L en && g.wrds.contains (f, k) && glB L f && isTr k && decide (o2 = o) && decide (w2 = w) && decide (ni = ("int" : Str)) && glB L ni
    | _ => false)
  | .tryA b i k j, L, x => (match x with
    | .Try xb [.ExceptHandler (some (.Name y _)) (some en) [.Expr (.Call (.Attribute (.Name l _) at_ ap) [.Call (.Name f _) [.Name e2 _] [] _] [] cp) _] _] [] [] _ => decide (y = Str.ofString "CloseError") && glB L y && chkSs g ex b L xb && decide (e2 = en) && decide (L.N[i]? = some en) && kindB L en .local && visB L en && g.wrds.contains (f, k) && glB L f
        && decide (at_ = ("append" : Str)) && (ap.endLine == cp.line) && decide (L.N[j]? = some l) && visB L l && decide (i ≠ j) && !isTr k
    | _ => false)
  | .expr _ e, L, x => (match x with
    | .Expr y _ => notComp y && chkE g e L y
    | _ => false)
  | .selfL _, _, _ => false
  | .tryR b c d, L, x => (match x with
    | .Try xb [.ExceptHandler (some (.Name y _)) none [.Return (some val) _] _] [] [] _ => !L.me && decide (y = c) && ex.contains c && glB L y && chkSs g ex b L xb && chkK d val
    | _ => false)
  | .appL i e, L, x => (match x with
    | .Expr (.Call (.Attribute (.Name y _) at_ ap) [xe] [] cp) _ => decide (at_ = ("append" : Str)) && (ap.endLine == cp.line) && decide (L.N[i]? = some y) && visB L y && chkE g e L xe
    | _ => false)
  | .retL i e, L, x => (match x with
    | .Return (some y) _ => L.me && chkE g e L y
    | _ => false)
  | .retLM i m, L, x => (match x with
    | .Return (some y) _ => L.me && chkM g m L y
    | _ => false)
  | .dct3 _ _ _ _ _ _, _, _ => false
  | .fldE i k j, L, x => (match x with
    | .Assign [.Attribute (.Name y _) f _] (.Dict [] [] _) _ => decide (L.N[i]? = some y) && visB L y && g.clss.contains k && decide ((clsF k)[j]? = some f)
    | _ => false)
  | .fldD i k j a m, L, x => (match x with
    | .Assign [.Subscript (.Attribute (.Name y _) f _) xa _] val _ => decide (L.N[i]? = some y) && visB L y && g.clss.contains k && decide ((clsF k)[j]? = some f) && chkE g a L xa && chkM g m L val
    | _ => false)
  | .asgMT l m, L, x => (match x with
    | .Assign [.Tuple ts k p] val _ => chkTs L l ts && notComp val && notTup val && chkM g m L val
    | _ => false)
  | .raisW i, L, x => (match x with
    | .Raise (some (.Call (.Name y _) [.Name z _] [] _)) none _ => g.rfd && decide (y = refE) && glB L y && decide (L.N[i]? = some z) && visB L z
    | _ => false)
  | .tryD b pre hs i, L, x => (match x with
    | .Try xb (.ExceptHandler (some (.Name y _)) (some en) [.Return (some (.BinOp (.Constant (.str p2) _ _) .Add (.Attribute (.Name e2 _) f _) _)) _] _ :: hds) [.Return (some (.Name z _)) _] [] _ =>
      g.rfd && L.me && decide (y = refE) && glB L y && chkSs g ex b L xb && decide (e2 = en) && L.N.contains en && kindB L en .local && visB L en && decide (p2 = pre) && decide (f = ("word" : Str)) && decide (L.N[i]? = some z) && visB L z && hdsB ex L hs hds
    | _ => false)
  | .keep _ _ _, _, _ => false
  | .brk, _, x => (match x with
    | .Break _ => true
    | _ => false)
  | .cont, _, x => (match x with
    | .Continue _ => true
    | _ => false)
  | .pass, _, x => (match x with
    | .Pass _ => true
    | _ => false)
def chkSs (g : Gm) (ex : List Str) : Ss → Lx → List Stmt → Bool
  | .nil, _, x => x.isEmpty
  | .cons s ss, L, x => (match x with
    | x :: xs => (chkS g ex s L x && chkSs g ex ss L xs) || chk3 g (.cons s ss) L (x :: xs)
    | _ => false)
end
/-- a method's body -/
def chkSsM (g : Gm) (ex : List Str) : Ss → Lx → List Stmt → Bool
  | .nil, _, x => x.isEmpty
  | .cons s ss, L, x => (match x with
    | x :: xs => chkS g ex s L x && chkSsM g ex ss L xs
    | [] => isEnd (.cons s ss))

structure CxS (T : Nat → Option Def) (g : Gm) (ex : List Str) (ca : Str → Value) (n : Nat) (L : Lx) (X : Cx) : Prop where
  c : CxOk T g ca n L X
  hs : X.stack = X.env :: X.outer
  hf : X.env.frame = some X.env.locals
  po : PassesOwn (model X.prog X.w) X.A X.env X.xe
  kd : X.env.scope.kind = .function
  exm : ∀ c2, isRef c2 = false → ∀ c ∈ ex, PySem.W.exmOne X.K (ca c2) (ca c) = some (isSub c2 c)
  rai : ∀ c ∈ ex, ∃ C, ca c = .ref C ∧ X.mg c = some (.ref C) ∧ PySem.W.excIn X.K C He.veBase "ValueError.__new__" = true ∧ PySem.W.keepIn X.K (.ref C) = true ∧ Raises X (.ref C)
  wrd : ∀ x k, (x, k) ∈ g.wrds → ∃ f fd ps, X.mg x = some (.ref f) ∧ PySem.W.keepIn X.K (.ref f) = true ∧ Binds X.K fd ps [] ∧ FnW X.prog X.w X.K X.mg X.base (L2N.CX X.prog X.w) 30 f fd ps (spW ca k)
  rfd : g.rfd = true → ∃ C fI fd ps, RefOk ca X C fI fd ps
  clo : g.wrds ≠ [] → ∃ C, X.mg (Str.ofString "CloseError") = some (.ref C) ∧ ∀ c, isRef c = false → PySem.W.exmOne X.K (ca c) (.ref C) = some true

section
variable {T : Nat → Option Def} {g : Gm} {ex : List Str} {ca : Str → Value} {n : Nat} {L : Lx} {X : Cx} {W : WX}
theorem sw_attr {val o : Expr} {f : Str} {p : Pos} {l : Nat} {env : Env} : swapsWith val (some (.Attribute o f p)) l env = pure false := by
  cases val <;> rfl
theorem sw_false {val : Expr} {t : Option Expr} {l : Nat} {env : Env} (h : notComp val = true) : swapsWith val t l env = pure false := by
  cases val <;> first | rfl | cases h
theorem blk_fn {env : Env} (h : env.scope.kind = .function) : env.blockKind = .function := by unfold Env.blockKind; rw [h]; rfl
theorem sw_cell {elt : Expr} {gs : List Comprehension} {scope : Scope} {pos py : Pos} {y : Str} {l : Nat} {env : Env} (hy : env.scope.names.lookup y ≠ some .local) : swapsWith (.ListComp elt gs scope pos) (some (.Name y py)) l env = pure false := by
  have ky : (env.kindOf y == some NameKind.local) = false := by
    cases q : (env.kindOf y == some NameKind.local) with
    | false => rfl
    | true => exact (hy (eq_of_beq q)).elim
  unfold swapsWith
  simp only [ky, Bool.and_false, Bool.false_and]
theorem lst_sz {a b : E} : sizeOf b < sizeOf (E.bin .add a b) := by simp; omega
theorem lst_ind {P : E → Prop} (st : ∀ e, (∀ a b, e = .bin .add a b → P b) → P e) (e : E) : P e := st e (fun a b q => lst_ind st b)
termination_by sizeOf e
decreasing_by subst q; exact lst_sz
theorem lc_list_ev {F : Nat → List D → R D} : ∀ {e : E} {env : List Sl} {d : D} (h : isLst e = true) (q : ev F env e = .ok d), ∃ l, d = .list l := by
  intro e
  induction e using lst_ind with
  | st e ih =>
  intro env d h q
  cases e with
  | lst es =>
    simp only [ev] at q
    cases e1 : evs F env es with
    | ok l => rw [e1] at q; cases q; exact ⟨_, rfl⟩
    | _ => rw [e1] at q; cases q
  | lc own elt tg it c =>
    simp only [ev] at q
    cases e1 : evI F env it with
    | ok l =>
      rw [e1] at q
      dsimp only [R.bind] at q
      split at q
      · cases q; exact ⟨_, rfl⟩
      · cases q
      · cases q
    | _ => rw [e1] at q; cases q
  | bin o a b =>
    cases o with
    | add =>
      simp only [ev] at q
      cases e1 : ev F env a with
      | ok x =>
        rw [e1] at q
        dsimp only [R.bind] at q
        cases e2 : ev F env b with
        | ok y =>
          obtain ⟨l, rfl⟩ := ih a b rfl h e2
          rw [e2] at q
          dsimp only at q
          cases x with
          | list l2 =>
            dsimp only [opR] at q
            split at q
            · cases q; exact ⟨_, rfl⟩
            · cases q
          | _ => cases q
        | _ => rw [e2] at q; cases q
      | _ => rw [e1] at q; cases q
    | _ => cases h
  | _ => cases h
theorem rdL_of {K : PySem.W.Frag} {r : List Sl → R D} {σ : L2.St} {H : Hp} {Q : VK} (hl : ∀ env d, r env = .ok d → ∃ l, d = .list l) (h : rdE K ca W r σ H Q) : rdL K ca W r σ H Q := by
  obtain ⟨env, G, s, he, hm⟩ := h
  refine ⟨env, G, s, he, ?_⟩
  cases ha : r env with
  | exc c => rw [ha] at hm; exact hm
  | bad => rw [ha] at hm; exact hm
  | ok d =>
    obtain ⟨l, rfl⟩ := hl env d ha
    rw [ha] at hm
    exact fun p vs H' G' x h1 h2 h3 h4 => hm (.ref p) H' _ (x.freeze h1 h2 h3) (.lst (SqL.of upd_same) (dpAll_mono (Same.upd h2) h4))
/-- a list that is made: as an expression -/
theorem sndL {e : E} {x : Expr} (C : CxOk T g ca n L X) (tk : L2N.Takes X W) (hl : isLst e = true) (h : chkE g e L x = true) : PE X x (rdL X.K ca W fun env => ev (evc T n) env e) := by
  cases e with
  | bin o a b =>
    cases o with
    | add =>
      unfold chkE at h
      simp only [ev]
      cases x with
      | BinOp xa op xb p =>
        dsimp only at h
        rw [Bool.and_eq_true, Bool.and_eq_true, decide_eq_true_eq] at h
        obtain ⟨h0, h1, h2⟩ := h
        subst h0
        exact e_catL (sndE a C tk h1).1.pe (sndE b C tk h2).1.pe fun env d q => lc_list_ev (e := b) hl q
      | _ => cases h
    | _ => cases hl
  | lst es =>
    unfold chkE at h
    simp only [ev]
    cases x with
    | List xs p =>
      dsimp only at h
      rw [Bool.and_eq_true, decide_eq_true_eq] at h
      obtain ⟨h1, h2⟩ := sndEs es C tk h.1
      exact e_lst h1 h.2 fun env ds q => evs_len h.1 q
    | _ => cases h
  | lc own elt tg it c =>
    have h0 := h
    unfold chkE at h
    split at h
    · obtain ⟨e0, P⟩ := sndLc C tk h0
      subst e0
      exact P.pe C.calm C.nd
    · cases h
  | _ => cases hl
/-- name = value -/
theorem sndA {e : E} {i : Nat} {y : Str} {py pos : Pos} {val : Expr} (C : CxS T g ex ca n L X) (tk : L2N.Takes X W) (h1 : tgB L i y = true) (h2 : swapB L y py val = true) (h3 : chkE g e L val = true) :
    PS X (.Assign [.Name y py] val pos) (tAsg (rdE X.K ca W fun env => ev (evc T n) env e) (gName i)) ∧ (isLst e = true → PS X (.Assign [.Name y py] val pos) (tAsg (rdL X.K ca W fun env => ev (evc T n) env e) (gName i))) := by
  obtain ⟨t1, t2, t3⟩ := C.c.tg h1
  by_cases hc : notComp val = true
  · exact ⟨ps_set C.c.nd t1 t2 (sndE e C.c tk h3).1.pe (sw_false hc) t3, fun hl => ps_set C.c.nd t1 t2 (sndL C.c tk hl h3) (sw_false hc) t3⟩
  · cases val with
    | ListComp xe gs scope lp =>
      cases e with
      | lc own elt tg it c =>
        have hk := h3
        unfold chkE at h3
        split at h3
        · rename_i heq
          cases heq
          rename_i xt xi xc as0
          obtain ⟨e0, P⟩ := sndLc C.c tk hk
          subst e0
          have key : PS X (.Assign [.Name y py] (.ListComp xe [⟨xt, xi, xc, 0⟩] scope lp) pos) (tAsg (rdL X.K ca W fun env => ev (evc T n) env (.lc own elt tg it c)) (gName i)) := by
            unfold swapB at h2
            rw [Bool.or_eq_true] at h2
            rcases h2 with h2 | h2
            · simp only [Bool.and_eq_true, Bool.not_eq_true'] at h2
              obtain ⟨k1, k2, k3⟩ := h2
              unfold kindB at k1
              rw [decide_eq_true_eq] at k1
              obtain ⟨wi, gg, tt, te, hi, ok, hg, ht, he, hs, rd⟩ := P.ex
              refine PS.imp (ps_setLc (spos := pos) C.c.calm C.c.nd t1 (by rw [C.c.hsc]; exact k1) (sw_true C.kd (by rw [C.c.hsc]; exact k1) k2 k3) hi ok hg ht he hs) fun D σ H q => ?_
              exact rd σ H _ q
            · refine ps_set C.c.nd t1 t2 (P.pe C.c.calm C.c.nd) (sw_cell ?_) t3
              unfold kindB at h2
              rw [C.c.hsc]
              simpa using h2
          exact ⟨PS.imp key fun D σ H q => rdL_of (fun env d q => lc_list_ev (e := .lc own elt tg it c) rfl q) q, fun _ => key⟩
        · cases h3
      | lcx own elt tg it =>
        have hk := h3
        unfold chkE at h3
        split at h3
        · rename_i heq
          cases heq
          rename_i xt xi as0
          obtain ⟨e0, P⟩ := sndLcx C.c tk hk
          subst e0
          have key : PS X (.Assign [.Name y py] (.ListComp xe [⟨xt, xi, [], 0⟩] scope lp) pos) (tAsg (rdL X.K ca W fun env => ev (evc T n) env (.lcx own elt tg it)) (gName i)) := by
            unfold swapB at h2
            rw [Bool.or_eq_true] at h2
            rcases h2 with h2 | h2
            · simp only [Bool.and_eq_true, Bool.not_eq_true'] at h2
              obtain ⟨k1, k2, k3⟩ := h2
              unfold kindB at k1
              rw [decide_eq_true_eq] at k1
              obtain ⟨wi, gg, te, hi, ok, hg, he, hs, ⟨q1, q2⟩, rd⟩ := P.ex
              refine PS.imp (ps_setLcX (spos := pos) C.c.calm C.c.nd t1 (by rw [C.c.hsc]; exact k1) (sw_true C.kd (by rw [C.c.hsc]; exact k1) k2 k3) tk q1 q2 hi ok hg (fun _ _ _ _ _ _ => pts_nil) he hs) fun D σ H q => ?_
              exact rd σ H _ q
            · refine ps_set C.c.nd t1 t2 (P.pe tk C.c.calm C.c.nd) (sw_cell ?_) t3
              unfold kindB at h2
              rw [C.c.hsc]
              simpa using h2
          exact ⟨PS.imp key fun D σ H q => rdL_of (fun env d q => by
            simp only [ev] at q
            cases e : evI (evc T n) env it with
            | ok l =>
              rw [e] at q
              dsimp only [R.bind] at q
              split at q
              · cases q; exact ⟨_, rfl⟩
              · cases q
              · cases q
            | _ => rw [e] at q; cases q) q, fun hl => by cases hl⟩
        · cases h3
      | _ =>
        exfalso
        unfold chkE at h3
        first | cases h3 | (rename_i d; cases d <;> cases h3)
    | SetComp _ _ _ _ => cases h2
    | DictComp _ _ _ _ _ => cases h2
    | _ => exact (hc rfl).elim
end
end Cw

set_option Elab.async false
set_option linter.all false
set_option maxRecDepth 100000
set_option maxHeartbeats 4000000
namespace Cw
open PySem PySem.Spec PyProof.Rows L2

section
variable {me : Bool} {T : Nat → Option Def} {g : Gm} {ex : List Str} {ca : Str → Value} {n : Nat} {L : Lx} {X : Cx} {W : WX} {K : PySem.W.Frag} {He Ge G H : Hp} {σ : L2.St} {env : List Sl} {F : Nat → List D → R D}
theorem CxS.tr (C : CxS T g ex ca n L X) {pn : List (Addr × Obj)} {xe : Value → Shared → Prop} (po : PassesOwn (model X.prog X.w) X.A X.env xe) : CxS T g ex ca n L (X.tr pn xe) :=
  ⟨⟨C.c.hN, C.c.hsc, C.c.hfl, C.c.htop, C.c.nd, C.c.calm, C.c.room, ⟨C.c.pyl.room, C.c.pyl.seer, C.c.pyl.tree, C.c.pyl.top⟩, C.c.blt, C.c.cons, C.c.fns, fun x j h => ⟨(C.c.dcts x j h).ex⟩, C.c.clss, C.c.mths, C.c.inis, C.c.lfs, fun x j h => ⟨(C.c.dvs x j h).ex⟩⟩, C.hs, C.hf, po, C.kd, C.exm, C.rai, C.wrd, (fun h => by
    obtain ⟨Cc, fI, fd, ps, R⟩ := C.rfd h
    exact ⟨Cc, fI, fd, ps, ⟨R.k, R.F, R.b⟩⟩), C.clo⟩

theorem swp_some {x y : Str} {a b : Expr} {px py pt pt2 : Pos} {kt k2 : Nat} {env : Env} (hk : env.scope.kind = .function) (hx : env.scope.names.lookup x = some .local) (hy : env.scope.names.lookup y = some .local) (hl : (px.line == py.line) = true) (hxy : x ≠ y)
    (na : notStar a = true) (nb : notStar b = true) (hf : (foldedForSure 8 a && foldedForSure 8 b) = false) (hcn : (constantsAlone 8 a && constantsAlone 8 b) = false) :
    swappedStores [.Tuple [.Name x px, .Name y py] kt pt] (.Tuple [a, b] k2 pt2) env = pure (some [x, y]) := by
  have bk := blk_fn hk
  have kx : env.kindOf x = some .local := hx
  have ky : env.kindOf y = some .local := hy
  have e1 : (py.line == px.line) = true := by rw [beq_iff_eq] at hl ⊢; exact hl.symm
  have ed : ([x, y] : List Str).eraseDups.length = 2 := by
    have q : (y == x) = false := by
      cases z : (y == x) with
      | false => rfl
      | true => exact (hxy (eq_of_beq z).symm).elim
    rw [List.eraseDups_cons]
    simp [q, List.eraseDups_cons]
  unfold swappedStores
  dsimp only
  rw [if_neg (by rw [bk]; simp)]
  rw [if_neg (by
    intro h
    rw [List.any_eq_true] at h
    obtain ⟨e, he, hs⟩ := h
    rcases List.mem_cons.mp he with z | z
    · subst z; cases e <;> first | (cases hs; done) | (cases na; done)
    · rcases List.mem_cons.mp z with z | z
      · subst z; cases e <;> first | (cases hs; done) | (cases nb; done)
      · cases z)]
  simp only [List.filterMap_cons, List.filterMap_nil, List.head?_cons, Option.map_some, Option.getD_some, Expr.pos, kx, ky, e1, beq_self_eq_true, Bool.and_true, if_true]
  rw [if_neg (by rw [ed]; simp)]
  rw [if_neg (by
    show ¬ (foldedForSure 8 a && (foldedForSure 8 b && true)) = true
    rw [Bool.and_true, hf]; simp)]
  rw [if_neg (by
    show ¬ (constantsAlone 8 a && (constantsAlone 8 b && true)) = true
    rw [Bool.and_true, hcn]; simp)]

theorem s_asg {i : Nat} {ms : List Nat} {e : E} {st : Stmt} (h : PS X st (tAsg (rdE X.K ca W fun env => ev F env e) (gName i))) : PS X st (rdS X.K ca W me fun env => evS F env (.asg i ms e)) :=
  PS.imp h fun Dn σ H ⟨S, He, Ge, G, env, me0, R0, ho⟩ => by
    obtain ⟨G', s, R1⟩ := R0.see ms
    simp only [evS] at ho
    refine R1.rd (on_ok ho R0 s fun d v H1 G1 _ e p ho => ?_)
    by_cases f : flatD d = true
    · rw [if_pos f] at ho
      exact ho _ _ _ ((R0.back s e).set (flat_any p f))
    · rw [if_neg f] at ho
      exact ho _ _ _ ((R1.ext e).set p)
theorem s_asgL {i : Nat} {ms : List Nat} {e : E} {st : Stmt} (hl : isLst e = true) (h : PS X st (tAsg (rdL X.K ca W fun env => ev F env e) (gName i))) : PS X st (rdS X.K ca W me fun env => evS F env (.asgL i ms e)) :=
  PS.imp h fun Dn σ H ⟨S, He, Ge, G, env, me0, R0, ho⟩ => by
    obtain ⟨G', s, R1⟩ := R0.see ms
    simp only [evS] at ho
    refine R1.rdL (on_okL ho R0 s (fun d q => lc_list_ev hl q) fun ds p vs H1 G1 _ e h1 h2 h3 h4 ho => ?_)
    exact ho _ _ _ (R1.setN e h1 h2 h3 h4)
theorem s_asgT {l ms : List Nat} {e : E} {st : Stmt} (h : PS X st (tAsg (rdE X.K ca W fun env => ev F env e) (gT X.K (.many l)))) : PS X st (rdS X.K ca W me fun env => evS F env (.asgT l ms e)) :=
  PS.imp h fun Dn σ H ⟨S, He, Ge, G, env, me0, R0, ho⟩ => by
    obtain ⟨G', s, R1⟩ := R0.see ms
    simp only [evS] at ho
    refine R1.rd (on_ok ho R0 s fun d v H1 G1 _ e p ho => ?_)
    cases q : setT (see env ms) (.many l) d with
    | ok e2 =>
      rw [q] at ho
      exact gT_rs (R1.ext e) p q fun σ2 R2 => ho _ _ _ R2
    | _ => rw [q] at ho; exact ho.elim
theorem s_asgU {l ms : List Nat} {e : E} {st : Stmt} (h : PS X st (tAsg (rdE X.K ca W fun env => ev F env e) (gUnl X.K l.length (gMany l)))) : PS X st (rdS X.K ca W me fun env => evS F env (.asgU l ms e)) :=
  PS.imp h fun Dn σ H ⟨S, He, Ge, G, env, me0, R0, ho⟩ => by
    obtain ⟨G', s, R1⟩ := R0.see ms
    simp only [evS] at ho
    refine R1.rd (on_ok ho R0 s fun d v H1 G1 _ e p ho => ?_)
    cases p with
    | lst q0 r0 =>
      rename_i ds hd
      dsimp only at ho
      cases q : setMany (see env ms) l ds with
      | ok e2 =>
        rw [q] at ho
        exact ⟨_, _, rfl, e.c.seq q0, by rw [dpAll_len r0, setMany_len q], many_rs (R1.ext e) r0 q fun σ2 R2 => ho _ _ _ R2⟩
      | _ => rw [q] at ho; exact ho.elim
    | _ => exact ho.elim
theorem s_ret {ms : List Nat} {e : E} {st : Stmt} (h : PS X st (tRet (rdE X.K ca W fun env => ev F env e))) : PS X st (rdS X.K ca W false fun env => evS F env (.ret ms e)) :=
  PS.imp h fun Dn σ H ⟨S, He, Ge, G, env, me0, R0, ho⟩ => by
    cases S with
    | some z => cases me0
    | none =>
      obtain ⟨G', s, R1⟩ := R0.see ms
      simp only [evS] at ho
      exact R1.rd (on_ok ho R0 s fun d v H1 G1 _ e p ho => ho v H1 G1 (R1.ext e).x p)
theorem s_expr {ms : List Nat} {e : E} {st : Stmt} (h : PS X st (tDrop (rdE X.K ca W fun env => ev F env e))) : PS X st (rdS X.K ca W me fun env => evS F env (.expr ms e)) :=
  PS.imp h fun Dn σ H ⟨S, He, Ge, G, env, me0, R0, ho⟩ => by
    obtain ⟨G', s, R1⟩ := R0.see ms
    simp only [evS] at ho
    exact R1.rd (on_ok ho R0 s fun d v H1 G1 _ e p ho => ho _ _ _ (R0.back s e))
theorem s_par {i j : Nat} {ms : List Nat} {a b : E} {st : Stmt} (h : PS X st (tPar i j (tCons (rdE X.K ca W fun env => ev F env a) (tCons (rdE X.K ca W fun env => ev F env b) tNil)))) : PS X st (rdS X.K ca W me fun env => evS F env (.par i j ms a b)) :=
  PS.imp h fun Dn σ H ⟨S, He, Ge, G, env, me0, R0, ho⟩ => by
    obtain ⟨G', s, R1⟩ := R0.see ms
    simp only [evS] at ho
    refine R1.rd (on_ok ho R0 s fun x v H1 G1 _ e p ho => ?_)
    refine (R1.ext e).rd (on_ok ho (R0.back s e) (s.trans e.b) fun y w H2 G2 _ e2 p2 ho => ?_)
    exact ⟨v, w, rfl, ho _ _ _ ((((R1.ext e).ext e2).set (dp_mono e2.b p)).set p2)⟩
theorem s_parL {i j : Nat} {ms : List Nat} {a b : E} {st : Stmt} (hl : isLst a = true) (h : PS X st (tPar i j (tCons (rdL X.K ca W fun env => ev F env a) (tCons (rdE X.K ca W fun env => ev F env b) tNil)))) : PS X st (rdS X.K ca W me fun env => evS F env (.parL i j ms a b)) :=
  PS.imp h fun Dn σ H ⟨S, He, Ge, G, env, me0, R0, ho⟩ => by
    obtain ⟨G', s, R1⟩ := R0.see ms
    simp only [evS] at ho
    refine R1.rdL (on_okL ho R0 s (fun d q => lc_list_ev hl q) fun ds p vs H1 G1 _ e h1 h2 h3 h4 ho => ?_)
    refine (R1.ext e).rd (on_ok ho (R0.back s e) (s.trans e.b) fun y w H2 G2 _ e2 p2 ho => ?_)
    refine ⟨.ref p, w, rfl, ho _ _ _ ((R1.setN (e.trans e2) h1 (e2.d p _ h3 h2) (e2.a p _ h3) (dpAll_mono e2.b h4)).set p2)⟩
theorem s_iff {ms : List Nat} {c : E} {a b : Ss} {xc : Expr} {xa xb : List Stmt} {pos : Pos} (hc : PT X xc (rdT X.K ca W fun env => ev F env c)) (ha : PSs X xa (rdS X.K ca W me fun env => evSs F env a)) (hb : PSs X xb (rdS X.K ca W me fun env => evSs F env b)) :
    PS X (.If xc xa xb pos) (rdS X.K ca W me fun env => evS F env (.iff ms c a b)) :=
  PS.imp (ps_if hc ha hb) fun Dn σ H ⟨S, He, Ge, G, env, me0, R0, ho⟩ => by
    obtain ⟨G', s, R1⟩ := R0.see ms
    simp only [evS] at ho
    refine R1.rdT (on_okT ho R0 s fun k H1 G1 _ e ho => ?_)
    cases k with
    | true => rw [if_pos rfl] at ho ⊢; exact ⟨S, He, Ge, G, env, me0, R0.back s e, ho⟩
    | false => rw [if_neg Bool.false_ne_true] at ho ⊢; exact ⟨S, He, Ge, G, env, me0, R0.back s e, ho⟩
theorem whl_spec {c : List Sl → R Bool} {b : List Sl → Out} {env : List Sl} {P : Out → Prop} (h : P (whl c b env)) (nb : ¬ P .bad) : ∃ m o, whlN c b m env = some o ∧ P o := by
  unfold whl at h
  by_cases q : ∃ n o, whlN c b n env = some o
  · rw [dif_pos q] at h
    exact ⟨_, _, Classical.choose_spec (Classical.choose_spec q), h⟩
  · rw [dif_neg q] at h
    exact (nb h).elim
theorem s_whl {ms : List Nat} {c : E} {b : Ss} {xc : Expr} {xb : List Stmt} {pos : Pos} (po : PassesOwn (model X.prog X.w) X.A X.env X.xe) (hc : PT X xc (rdT X.K ca W fun env => ev F env c)) (hb : PSs X xb (rdS X.K ca W me fun env => evSs F env b)) :
    PS X (.While xc xb [] pos) (rdS X.K ca W me fun env => evS F env (.whl ms c b)) :=
  PS.imp (ps_while po hc hb) fun Dn σ H ⟨S, He, Ge, G, env, me0, R0, ho⟩ => by
    simp only [evS] at ho
    obtain ⟨m0, o, h0, ho⟩ := whl_spec (P := OutS X.K ca W S He Ge Dn) ho (fun z => z)
    refine ⟨fun m σ H => ∃ env G, RSG X.K S He Ge G σ H env ∧ whlN (fun e => toB (ev F (see e ms) c)) (fun e => evSs F e b) m env = some o, ⟨m0, env, G, R0, h0⟩, ?_⟩
    rintro m σ H ⟨env, G, R0, h0⟩
    cases m with
    | zero => cases h0
    | succ m =>
      obtain ⟨G', s, R1⟩ := R0.see ms
      unfold whlN at h0
      refine R1.rdT ?_
      dsimp only at h0 ⊢
      cases ec : ev F (see env ms) c with
      | bad =>
        rw [ec] at h0
        cases h0
        exact ho.elim
      | exc x =>
        rw [ec] at h0
        cases h0
        exact fun H1 G1 e => ho _ _ _ (R0.back s e)
      | ok d =>
        rw [ec] at h0
        cases d with
        | bool k =>
          intro H1 G1 e
          have R2 := R0.back s e
          cases k with
          | false =>
            cases h0
            rw [if_neg Bool.false_ne_true]
            exact ho _ _ _ R2
          | true =>
            rw [if_pos rfl]
            dsimp only [toB] at h0
            refine ⟨fun σ' H' => ∃ env G, RSG X.K S He Ge G σ' H' env ∧ whlN (fun e => toB (ev F (see e ms) c)) (fun e => evSs F e b) m env = some o, fun σ' H' z => ⟨m, Nat.lt_succ_self _, z⟩, S, He, Ge, G, env, me0, R2, ?_⟩
            show OutS X.K ca W S He Ge _ (evSs F env b)
            cases eb : evSs F env b with
            | next e1 => rw [eb] at h0; exact fun σ2 H2 G2 R3 => ⟨e1, G2, R3, h0⟩
            | cont e1 => rw [eb] at h0; exact fun σ2 H2 G2 R3 => ⟨e1, G2, R3, h0⟩
            | brk e1 => rw [eb] at h0; cases h0; exact ho
            | ret x => rw [eb] at h0; cases h0; exact ho
            | exc c2 e1 => rw [eb] at h0; cases h0; exact ho
            | bad => rw [eb] at h0; cases h0; exact ho.elim
        | _ =>
          cases h0
          exact ho.elim
theorem s_for {ms : List Nat} {t : Tg} {it : It} {b : Ss} {xt xi : Expr} {xb : List Stmt} {pos : Pos} (hcalm : X.calm = true) (po : PassesOwn (model X.prog X.w) X.A X.env X.xe) (hi : PI X xt xi (rdI X.K ca W fun env => evI F env it)) (hf : ∀ v, foldedSetIterable xi X.env v = pure v) (hg : PG X xt (gT X.K t)) (hb : PSs X xb (rdS X.K ca W me fun env => evSs F env b)) :
    PS X (.For xt xi xb [] pos) (rdS X.K ca W me fun env => evS F env (.for_ ms t it b)) :=
  PS.imp (ps_for po hcalm hi hg hb hf) fun Dn σ H ⟨S, He, Ge, G, env, me0, R0, ho⟩ => by
    obtain ⟨G', s, R1⟩ := R0.see ms
    simp only [evS] at ho
    refine R1.rdI ?_
    cases ei : evI F (see env ms) it with
    | bad => rw [ei] at ho; exact ho.elim
    | exc c => rw [ei] at ho; exact fun H1 G1 e => ho _ _ _ (R0.back s e)
    | ok ds =>
      rw [ei] at ho
      intro J H1 G1 x1 wk
      dsimp only [onR] at ho
      generalize hfn : (fun (d : D) (e : List Sl) => match setT e t d with
        | .ok e2 => evSs F e2 b
        | _ => .bad) = f at ho
      have R2 := R1.ext x1
      refine ⟨fun i m σ H => m = ds.length - i ∧ i ≤ ds.length ∧ ∃ env G, RSG X.K S He Ge G σ H env ∧ Same G1 G ∧ OutS X.K ca W S He Ge Dn (forGo f (ds.drop i) env), ⟨ds.length, by simp, Nat.zero_le _, _, G1, R2, Same.refl _, by simpa using ho⟩, ?_⟩
      rintro i m σ H ⟨rfl, hi, env, G, R3, s3, ho⟩
      by_cases hlt : i < ds.length
      · refine .inr ⟨wk.goes i H hlt (Same.d (s3.trans R3.x.c)), fun σ' H' => i + 1 ≤ ds.length ∧ ∃ env G, RSG X.K S He Ge G σ' H' env ∧ Same G1 G ∧ OutS X.K ca W S He Ge Dn (forGo f (ds.drop (i + 1)) env), fun σ' H' z => ⟨ds.length - (i + 1), by omega, rfl, z.1, z.2⟩, fun x H2 y => ?_⟩
        obtain ⟨d, G2, hd, x2, dp⟩ := wk.yields i H x H2 G hlt (Same.d s3) R3.x.c y
        have ed : ds.drop i = d :: ds.drop (i + 1) := by
          have q := List.drop_eq_getElem_cons hlt
          rw [q]
          have q2 : ds[i] = d := by
            have q3 := List.getElem?_eq_getElem hlt
            rw [hd] at q3
            exact (Option.some.inj q3).symm
          rw [q2]
        rw [ed] at ho
        unfold forGo at ho
        have R4 := R3.ext x2
        have sG : Same G1 G2 := s3.trans x2.b
        rw [← hfn] at ho
        dsimp only at ho
        cases es : setT env t d with
        | exc c => rw [es] at ho; exact ho.elim
        | bad => rw [es] at ho; exact ho.elim
        | ok e2 =>
          rw [es] at ho
          dsimp only at ho
          refine gT_rs R4 dp es fun σ2 R5 => ⟨S, He, G2, G2, e2, me0, ⟨⟨R5.x.a, Same.refl _, R5.x.c, fun _ _ _ z => z⟩, R5.e, R5.o, R5.b, R5.s, R5.l⟩, ?_⟩
          have xw : Ext He Ge H2 G2 := R5.x
          show OutS X.K ca W S He G2 _ (evSs F e2 b)
          cases eb : evSs F e2 b with
          | next e1 =>
            rw [eb] at ho
            exact fun σ3 H3 G3 R6 => ⟨hlt, e1, G3, R6.wid xw, sG.trans R6.x.b, by rw [← hfn]; exact ho⟩
          | cont e1 =>
            rw [eb] at ho
            exact fun σ3 H3 G3 R6 => ⟨hlt, e1, G3, R6.wid xw, sG.trans R6.x.b, by rw [← hfn]; exact ho⟩
          | brk e1 => rw [eb] at ho; exact fun σ3 H3 G3 R6 => ho σ3 H3 G3 (R6.wid xw)
          | ret x => rw [eb] at ho; exact OutS.wid (o := .ret x) xw ho
          | exc c2 e1 => rw [eb] at ho; exact fun σ3 H3 G3 R6 => ho σ3 H3 G3 (R6.wid xw)
          | bad => rw [eb] at ho; exact ho.elim
      · have e : i = ds.length := by omega
        subst e
        rw [List.drop_length] at ho
        exact .inl ⟨wk.stops H (Same.d (s3.trans R3.x.c)), ho _ _ _ R3⟩
theorem see_out : ∀ (ms : List Nat) {env : List Sl} {i : Nat}, i ∉ ms → (see env ms)[i]? = env[i]?
  | [], _, _, _ => rfl
  | j :: l, env, i, h => by
    unfold see
    rw [see_out l fun z => h (List.mem_cons_of_mem _ z)]
    have hj : j ≠ i := fun z => h (by rw [z]; exact List.mem_cons_self)
    split
    · rw [List.getElem?_set_ne hj]
    · rfl
theorem few_one {e : Expr} {env : Env} {cpos : Pos} (h : notStar e = true) : ((backTo cpos (starEach [e] env)).all (fun x => !x.1) && (backToKw cpos (keywordEach [] env)).all (fun x => x.1.isSome)
      && decide (([e] : List Expr).length + ([] : List Keyword).length + (if ([] : List Keyword).isEmpty then 0 else 1) < 30)) = true := by
  rw [star_cons h]; rfl
theorem s_app {i : Nat} {ms : List Nat} {e : E} {y : Str} {py ap cp pos : Pos} {xe : Expr} (hv : PE X (.Name y py) (tVar i)) (hl : (ap.endLine == cp.line) = true) (him : i ∉ ms) (ns : notStar xe = true) (he : PE X xe (rdE X.K ca W fun env => ev F env e)) :
    PS X (.Expr (.Call (.Attribute (.Name y py) "append" ap) [xe] [] cp) pos) (rdS X.K ca W me fun env => evS F env (.app i ms e)) :=
  PS.imp (ps_expr (pe_bm PySem.F.plainAttrs_list PySem.F.slot_list_append PySem.F.type_list_append mt_append hv (pa_cons he pa_nil (star_cons ns)) rfl (few_one ns) hl (star_cons ns) rfl) rfl) fun Dn σ H ⟨S, He, Ge, G, env, me0, R0, ho⟩ => by
    obtain ⟨G', s, R1⟩ := R0.see ms
    simp only [evS] at ho
    cases q : env[i]? with
    | none => rw [q] at ho; exact ho.elim
    | some z =>
      rw [q] at ho
      cases z with
      | ow ds =>
        have q1 : (see env ms)[i]? = some (.ow ds) := by rw [see_out ms him]; exact q
        obtain ⟨p, vs, a1, a2, a3, a4, a5, a6⟩ := R1.o i ds q1
        refine ⟨.ref p, a1, .inl ⟨rfl, _, SqL.of a2⟩, R1.rd (on_ok ho R0 s fun d v H1 G1 _ e p1 ho => ?_)⟩
        have b2 := e.a p _ a2
        split at ho
        · rename_i hz
          refine ⟨p, vs, v, rfl, rfl, b2, by rw [dpAll_len a3]; exact hz, ho _ _ _ ((R1.ext e).upd q1 a1 b2 (dpAll_app (dpAll_mono e.b a3) (.cons p1 .nil)))⟩
        · exact ho.elim
      | _ => exact ho.elim
theorem s_ext {i : Nat} {ms : List Nat} {e : E} {y : Str} {py ap cp pos : Pos} {xe : Expr} (hlc : isLst e = true) (hv : PE X (.Name y py) (tVar i)) (hl : (ap.endLine == cp.line) = true) (him : i ∉ ms) (ns : notStar xe = true) (he : PE X xe (rdL X.K ca W fun env => ev F env e)) :
    PS X (.Expr (.Call (.Attribute (.Name y py) "extend" ap) [xe] [] cp) pos) (rdS X.K ca W me fun env => evS F env (.ext i ms e)) :=
  PS.imp (ps_expr (pe_bm PySem.F.plainAttrs_list PySem.F.slot_list_extend PySem.F.type_list_extend mt_extend hv (pa_cons he pa_nil (star_cons ns)) rfl (few_one ns) hl (star_cons ns) rfl) rfl) fun Dn σ H ⟨S, He, Ge, G, env, me0, R0, ho⟩ => by
    obtain ⟨G', s, R1⟩ := R0.see ms
    simp only [evS] at ho
    cases q : env[i]? with
    | none => rw [q] at ho; exact ho.elim
    | some z =>
      rw [q] at ho
      cases z with
      | ow ds =>
        have q1 : (see env ms)[i]? = some (.ow ds) := by rw [see_out ms him]; exact q
        obtain ⟨p, vs, a1, a2, a3, a4, a5, a6⟩ := R1.o i ds q1
        refine ⟨.ref p, a1, .inl ⟨rfl, _, SqL.of a2⟩, R1.rdL (on_okL ho R0 s (fun d q => lc_list_ev hlc q) fun es b ws H1 G1 _ e h1 h2 h3 h4 ho => ?_)⟩
        have b2 := e.a p _ a2
        dsimp only at ho
        split at ho
        · rename_i hz
          refine ⟨p, b, vs, ws, rfl, rfl, b2, h3, by rw [dpAll_len a3, dpAll_len h4]; exact hz, ho _ _ _ ((R1.ext e).upd q1 a1 b2 (dpAll_app (dpAll_mono e.b a3) h4))⟩
        · exact ho.elim
      | _ => exact ho.elim
theorem dpAll_set {G : Hp} : ∀ {vs : List V} {ds : List D} {v : V} {d : D} (i : Nat), DpAll K G vs ds → Dp K G v d → DpAll K G (vs.set i v) (ds.set i d)
  | _, _, _, _, _, .nil, _ => .nil
  | _, _, _, _, 0, .cons _ b, h => .cons h b
  | _, _, _, _, i + 1, .cons a b, h => .cons a (dpAll_set i b h)
theorem s_setC {i a b : Nat} {y : Str} {py py2 sp sp2 cp cp2 pos : Pos} {k1 k2 : Nat} (hv : ∀ p, PE X (.Name y p) (tVar i)) :
    PS X (.Assign [.Subscript (.Name y py) (.Constant (.int (a : Int)) k1 cp) sp] (.Subscript (.Name y py2) (.Constant (.int (b : Int)) k2 cp2) sp2) pos) (rdS X.K ca W me fun env => evS F env (.setC i a b)) :=
  PS.imp (ps_asg (pe_ix ix_seq (hv py2) pe_int (plainIx_of rfl)) (pg_sub (hv py) pe_int set_list) rfl rfl rfl) fun Dn σ H ⟨S, He, Ge, G, env, me0, R0, ho⟩ => by
    simp only [evS] at ho
    cases q : env[i]? with
    | none => rw [q] at ho; exact ho.elim
    | some z =>
      rw [q] at ho
      cases z with
      | ow ds =>
        obtain ⟨p, vs, a1, a2, a3, a4, a5, a6⟩ := R0.o i ds q
        dsimp only at ho
        cases ql : ds[b]? with
        | none => rw [ql] at ho; exact ho.elim
        | some d =>
          rw [ql] at ho
          dsimp only at ho
          split at ho
          · rename_i hlt
            obtain ⟨v, v1, v2⟩ := dpAll_get a3 ql
            have hlen := dpAll_len a3
            refine ⟨.ref p, a1, .inl ⟨p, vs, (b : Int), v, rfl, rfl, SqL.of a2, L2.atI_nat v1, .ref p, a1, p, vs, (a : Int), a, rfl, rfl, a2, ?_, ho _ _ _ (R0.upd q a1 a2 (dpAll_set a a3 v2))⟩⟩
            unfold L2.ixN
            rw [if_pos (by omega), if_pos (by omega), Int.toNat_natCast]
          · exact ho.elim
      | _ => exact ho.elim
theorem s_setX {i : Nat} {ms : List Nat} {a e : E} {st : Stmt} (h : PS X st (tAsg (rdE X.K ca W fun env => ev F env e) (gSub (tVar i) (rdE X.K ca W fun env => ev F env a) rSetL))) :
    PS X st (rdS X.K ca W me fun env => evS F env (.setX i ms a e)) :=
  PS.imp h fun Dn σ H ⟨S, He, Ge, G, env, me0, R0, ho⟩ => by
    obtain ⟨G', s, R1, hs⟩ := R0.see3 ms
    simp only [evS] at ho
    cases q : env[i]? with
    | none => rw [q] at ho; exact ho.elim
    | some z =>
      rw [q] at ho
      cases z with
      | ow ds =>
        obtain ⟨p, vs, a1, a2, a3, a4, a5, a6⟩ := R0.o i ds q
        refine R1.rd (on_ok ho R0 s fun d v H1 G1 _ e1 p1 ho => ?_)
        refine ⟨.ref p, a1, (R1.ext e1).rd (on_ok ho (R0.back s e1) (s.trans e1.b) fun k w H2 G2 _ e2 p2 ho => ?_)⟩
        have ee : Ext H G' H2 G2 := e1.trans e2
        have h2 := ee.a p _ a2
        have hlen := dpAll_len a3
        cases p2 with
        | int j =>
          unfold setXO at ho
          dsimp only at ho
          by_cases hc : flt2 d = true ∧ 0 ≤ j ∧ j < ds.length
          · rw [if_pos hc] at ho
            obtain ⟨hf, h0, hj⟩ := hc
            have done : ∀ Gx, RSG X.K S He Ge Gx σ H2 env → Same G Gx → Dp X.K Gx v d → Dn.nx σ (upd H2 p (.lst (vs.set j.toNat v))) := fun Gx Rx sx px => ho σ _ Gx (Rx.upd q a1 h2 (dpAll_set j.toNat (dpAll_mono sx a3) px))
            have ix : L2.ixN vs.length j = some j.toNat := by
              unfold L2.ixN
              rw [if_pos (by omega), if_pos (by omega)]
            refine ⟨p, vs, j, j.toNat, rfl, rfl, h2, ix, ?_⟩
            cases d with
            | tuple l =>
              obtain ⟨Gx, k1, k2, k3⟩ := R0.keepT s hs ee (dp_mono e2.b p1) hf
              exact done Gx k1 k2 k3
            | none => exact done G (R0.back s ee) (Same.refl _) (flat_any p1 rfl)
            | bool b => exact done G (R0.back s ee) (Same.refl _) (flat_any p1 rfl)
            | int b => exact done G (R0.back s ee) (Same.refl _) (flat_any p1 rfl)
            | str b => exact done G (R0.back s ee) (Same.refl _) (flat_any p1 rfl)
            | _ => cases hf
          · rw [if_neg hc] at ho; exact ho.elim
        | _ => exact ho.elim
      | _ => exact ho.elim
theorem dpAll_dropLast {G : Hp} : ∀ {vs : List V} {ds : List D}, DpAll K G vs ds → DpAll K G vs.dropLast ds.dropLast
  | _, _, .nil => .nil
  | _, _, .cons a .nil => .nil
  | _, _, .cons a (.cons b c) => .cons a (dpAll_dropLast (.cons b c))
theorem s_popT {i : Nat} {l : List Nat} {y : Str} {py ap cp pos tp : Pos} {k : Nat} {ts : List Expr} (hv : PE X (.Name y py) (tVar i)) (hl : (ap.endLine == cp.line) = true) (hg : PG X (.Tuple ts k tp) (gT X.K (.many l))) :
    PS X (.Assign [.Tuple ts k tp] (.Call (.Attribute (.Name y py) "pop" ap) [] [] cp) pos) (rdS X.K ca W me fun env => evS F env (.popT l i)) :=
  PS.imp (ps_asg (pe_bm0 PySem.F.plainAttrs_list PySem.F.slot_list_pop PySem.F.type_list_pop mt_pop hv rfl hl) hg rfl rfl rfl) fun Dn σ H ⟨S, He, Ge, G, env, me0, R0, ho⟩ => by
    simp only [evS] at ho
    cases q : env[i]? with
    | none => rw [q] at ho; exact ho.elim
    | some z =>
      rw [q] at ho
      cases z with
      | ow ds =>
        obtain ⟨p, vs, a1, a2, a3, a4, a5, a6⟩ := R0.o i ds q
        dsimp only at ho
        cases ql : ds.getLast? with
        | none => rw [ql] at ho; exact ho.elim
        | some d =>
          rw [ql] at ho
          dsimp only at ho
          have ql2 : ds[ds.length - 1]? = some d := by rw [← List.getLast?_eq_getElem?]; exact ql
          obtain ⟨v, v1, v2⟩ := dpAll_get a3 ql2
          cases es : setT (env.set i (.ow ds.dropLast)) (.many l) d with
          | ok e2 =>
            rw [es] at ho
            refine ⟨.ref p, a1, .inl ⟨rfl, _, SqL.of a2⟩, p, vs, v, rfl, rfl, a2, by rw [dpAll_len a3]; exact v1, ?_⟩
            exact gT_rs (R0.upd q a1 a2 (dpAll_dropLast a3)) v2 es fun σ2 R2 => ho _ _ _ R2
          | _ => rw [es] at ho; exact ho.elim
      | _ => exact ho.elim
/-! ### what may change an object -/
theorem on_okM {A B : Type} {P : Hp → B → A → Prop} {Dn : Ends} {S : Option Bor} {r : RM A} {f : A → List Sl → Out} {N : B → Hp → Prop} (h : OutS K ca W S He Ge Dn (onM r f)) (n : ∀ d e v H' G', r = .ok d e → RSG K S He Ge G' σ H' e → P G' v d → OutS K ca W S He Ge Dn (f d e) → N v H') : RsM K ca W S He Ge σ G P N r := by
  cases r with
  | ok d e => exact fun v H' G' R s p => n d e v H' G' rfl R p h
  | exc c e => exact fun H' G' R => h σ H' G' R
  | bad => exact h
theorem s_asgM {i : Nat} {m : M} {st : Stmt} (h : PS X st (tAsg (rdM X.K ca W fun env => evM F env m) (gName i))) : PS X st (rdS X.K ca W me fun env => evS F env (.asgM i m)) :=
  PS.imp h fun Dn σ H ⟨S, He, Ge, G, env, me0, R0, ho⟩ => by
    simp only [evS] at ho
    exact ⟨S, He, Ge, G, env, R0, on_okM ho fun d e v H1 G1 _ R1 p ho => ho _ _ _ (R1.set p)⟩
theorem s_retP {m : M} {st : Stmt} (h : PS X st (tRet (rdM X.K ca W fun env => evM F env m))) : PS X st (rdS X.K ca W false fun env => evS F env (.retP m)) :=
  PS.imp h fun Dn σ H ⟨S, He, Ge, G, env, me0, R0, ho⟩ => by
    cases S with
    | some z => cases me0
    | none =>
      simp only [evS] at ho
      exact ⟨none, He, Ge, G, env, R0, on_okM ho fun d e v H1 G1 _ R1 p ho => ho v H1 G1 R1.x p⟩
/-- a method's answer -/
theorem ret_met {Dn : Ends} {S : Option Bor} {d : D} {e : List Sl} {v : V} (ho : OutS K ca W S He Ge Dn (retO d e)) (R : RSG K S He Ge G σ H e) (p : Dp K G v d) : Dn.rt v H := by
  unfold retO at ho
  split at ho
  · rename_i k fs q
    obtain ⟨p0, dx, ws, c1, c2, c3, c4, c5, c6, c7⟩ := R.b 0 true k fs q
    rcases c6 with ⟨_, c6⟩ | ⟨c6, _⟩
    case inr => cases c6
    subst c6
    obtain ⟨d0, gs, e1, n⟩ := ho
    cases e1
    exact n v H G ws R.x c2 c3 c5 c4 p
  · exact ho.elim
theorem s_retM {m : M} {st : Stmt} (h : PS X st (tRet (rdM X.K ca W fun env => evM F env m))) : PS X st (rdS X.K ca W me fun env => evS F env (.retM m)) :=
  PS.imp h fun Dn σ H ⟨S, He, Ge, G, env, me0, R0, ho⟩ => by
    simp only [evS] at ho
    exact ⟨S, He, Ge, G, env, R0, on_okM ho fun d e v H1 G1 _ R1 p ho => ret_met ho R1 p⟩
theorem s_exprM {m : M} {st : Stmt} (h : PS X st (tDrop (rdM X.K ca W fun env => evM F env m))) : PS X st (rdS X.K ca W me fun env => evS F env (.exprM m)) :=
  PS.imp h fun Dn σ H ⟨S, He, Ge, G, env, me0, R0, ho⟩ => by
    simp only [evS] at ho
    exact ⟨S, He, Ge, G, env, R0, on_okM ho fun d e v H1 G1 _ R1 p ho => ho _ _ _ R1⟩
theorem s_appL {i : Nat} {e : E} {y : Str} {py ap cp pos : Pos} {xe : Expr} (hv : PE X (.Name y py) (tVar i)) (hl : (ap.endLine == cp.line) = true) (ns : notStar xe = true) (he : PE X xe (rdE X.K ca W fun env => ev F env e)) :
    PS X (.Expr (.Call (.Attribute (.Name y py) "append" ap) [xe] [] cp) pos) (rdS X.K ca W me fun env => evS F env (.appL i e)) :=
  PS.imp (ps_expr (pe_bm PySem.F.plainAttrs_list PySem.F.slot_list_append PySem.F.type_list_append mt_append hv (pa_cons he pa_nil (star_cons ns)) rfl (few_one ns) hl (star_cons ns) rfl) rfl) fun Dn σ H ⟨S, He, Ge, G, env, me0, R0, ho⟩ => by
    simp only [evS] at ho
    cases q : env[i]? with
    | none => rw [q] at ho; exact ho.elim
    | some z =>
      rw [q] at ho
      cases z with
      | ln ds =>
        obtain ⟨p, vs, a1, a2, a3, a4, a5, _⟩ := R0.l i ds q
        refine ⟨.ref p, a1, .inl ⟨rfl, _, SqL.of a2⟩, R0.rd (on_ok ho R0 (Same.refl _) fun d v H1 G1 _ e p1 ho => ?_)⟩
        have b2 := e.a p _ a2
        split at ho
        · rename_i hz
          have R1 := R0.ext e
          obtain ⟨p2, vs2, b1, b3, b4, b5, b6, _⟩ := R1.l i ds q
          rw [a1] at b1
          cases b1
          refine ⟨p, vs, v, rfl, rfl, b2, by rw [dpAll_len a3]; exact hz, ho _ _ _ (R1.lnU q a1 b2 ⟨fun b u z => ?_, Same.refl _, fun b u z => ?_, fun _ _ _ n => n⟩ upd_same (dpAll_app (dpAll_mono e.b a3) (.cons p1 .nil)) b6)⟩
          · obtain ⟨n1, z⟩ := del_some z
            rw [del_ne n1, upd_ne n1]; exact z
          · have n1 : b ≠ p := ne_of_none z b6
            rw [del_ne n1, upd_ne n1]; exact R1.x.c b u z
        · exact ho.elim
      | _ => exact ho.elim
theorem s_retL {i : Nat} {e : E} {st : Stmt} (h : PS X st (tRet (rdE X.K ca W fun env => ev F env e))) : PS X st (rdS X.K ca W me fun env => evS F env (.retL i e)) :=
  PS.imp h fun Dn σ H ⟨S, He, Ge, G, env, me0, R0, ho⟩ => by
    simp only [evS] at ho
    cases q : env[i]? with
    | none => rw [q] at ho; exact ho.elim
    | some z =>
      rw [q] at ho
      cases z with
      | ln ds =>
        obtain ⟨p, vs, c6, c1, c2, c3, c5, R1⟩ := R0.seeLn q
        subst c6
        refine R1.rd (on_ok ho R0 (Same.upd c5) fun d v H1 G1 _ e p1 ho => ?_)
        split at ho
        · rename_i hf
          obtain ⟨d0, es, e0, n⟩ := ho
          cases e0
          exact n v H1 G vs (R0.back (Same.upd c5) e).x (e.a p _ c2) c3 c5 (flat_any p1 hf)
        · exact ho.elim
      | _ => exact ho.elim
theorem s_retLM {i : Nat} {m : M} {st : Stmt} (h : PS X st (tRet (rdM X.K ca W fun env => evM F env m))) : PS X st (rdS X.K ca W me fun env => evS F env (.retLM i m)) :=
  PS.imp h fun Dn σ H ⟨S, He, Ge, G, env, me0, R0, ho⟩ => by
    simp only [evS] at ho
    refine ⟨S, He, Ge, G, env, R0, on_okM ho fun d e v H1 G1 _ R1 p ho => ?_⟩
    unfold retLO at ho
    split at ho
    · rename_i ds q
      obtain ⟨p0, vs, c1, c2, c3, c4, c5, c6, _⟩ := R1.l i ds q
      subst c6
      obtain ⟨d0, es, e0, n⟩ := ho
      cases e0
      exact n v H1 G1 vs R1.x c2 c3 c5 p
    · exact ho.elim
theorem on_okB {Dn : Ends} {S : Option Bor} {r : RM D} {f g : List Sl → Out} {N : Bool → Hp → Prop} (h : OutS K ca W S He Ge Dn (onM r fun d e => match d with | .bool true => f e | .bool false => g e | _ => .bad))
    (n : ∀ b e H' G', RSG K S He Ge G' σ H' e → OutS K ca W S He Ge Dn (if b = true then f e else g e) → N b H') : RsM K ca W S He Ge σ G TrB N r ∧ ∀ d e, r = .ok d e → ∃ b, d = .bool b := by
  cases r with
  | ok d e =>
    dsimp only [onM] at h
    cases d with
    | bool b =>
      refine ⟨fun v H' G' R s p => ?_, fun d e q => by cases q; exact ⟨_, rfl⟩⟩
      cases p
      refine n b e H' G' R ?_
      cases b <;> exact h
    | _ => exact h.elim
  | exc c e => exact ⟨fun H' G' R => h σ H' G' R, fun d e q => by cases q⟩
  | bad => exact h.elim
theorem s_iffM {m : M} {a b : Ss} {xc : Expr} {xa xb : List Stmt} {pos : Pos} (hc : PT X xc (rdMT X.K ca W fun env => evM F env m)) (ha : PSs X xa (rdS X.K ca W me fun env => evSs F env a)) (hb : PSs X xb (rdS X.K ca W me fun env => evSs F env b)) :
    PS X (.If xc xa xb pos) (rdS X.K ca W me fun env => evS F env (.iffM m a b)) :=
  PS.imp (ps_if hc ha hb) fun Dn σ H ⟨S, He, Ge, G, env, me0, R0, ho⟩ => by
    simp only [evS] at ho
    refine ⟨S, He, Ge, G, env, R0, on_okB ho fun k e H1 G1 R1 ho => ?_⟩
    cases k with
    | true => rw [if_pos rfl] at ho ⊢; exact ⟨S, He, Ge, G1, e, me0, R1, ho⟩
    | false => rw [if_neg Bool.false_ne_true] at ho ⊢; exact ⟨S, He, Ge, G1, e, me0, R1, ho⟩
theorem s_whlM {m : M} {b : Ss} {xc : Expr} {xb : List Stmt} {pos : Pos} (po : PassesOwn (model X.prog X.w) X.A X.env X.xe) (hc : PT X xc (rdMT X.K ca W fun env => evM F env m)) (hb : PSs X xb (rdS X.K ca W me fun env => evSs F env b)) :
    PS X (.While xc xb [] pos) (rdS X.K ca W me fun env => evS F env (.whlM m b)) :=
  PS.imp (ps_while po hc hb) fun Dn σ H ⟨S, He, Ge, G, env, me0, R0, ho⟩ => by
    simp only [evS] at ho
    generalize hfb : (fun e => onM (evM F e m) fun d e2 => match d with
      | .bool true => evSs F e2 b
      | .bool false => .brk e2
      | _ => .bad) = fb at ho
    obtain ⟨m0, o, h0, ho⟩ := whl_spec (P := OutS X.K ca W S He Ge Dn) ho (fun z => z)
    refine ⟨fun k σ H => ∃ env G, RSG X.K S He Ge G σ H env ∧ whlN (fun _ => .ok true) fb k env = some o, ⟨m0, env, G, R0, h0⟩, ?_⟩
    rintro k σ H ⟨env, G, R0, h0⟩
    cases k with
    | zero => cases h0
    | succ k =>
      unfold whlN at h0
      dsimp only at h0
      refine ⟨S, He, Ge, G, env, R0, ?_⟩
      have efb : fb env = onM (evM F env m) fun d e2 => match d with
        | .bool true => evSs F e2 b
        | .bool false => .brk e2
        | _ => .bad := by rw [← hfb]
      rw [efb] at h0
      dsimp only
      cases ec : evM F env m with
      | bad =>
        rw [ec] at h0
        cases h0
        exact ho.elim
      | exc x e =>
        rw [ec] at h0
        cases h0
        exact ⟨fun H1 G1 R1 => ho _ _ _ R1, fun d e q => by cases q⟩
      | ok d e =>
        rw [ec] at h0
        dsimp only [onM] at h0
        cases d with
        | bool c =>
          refine ⟨fun c2 H1 G1 R1 s p => ?_, fun d e q => by cases q; exact ⟨_, rfl⟩⟩
          have p : PyData.bool c = .bool c2 := p
          injection p with p
          subst p
          cases c with
          | false =>
            cases h0
            dsimp only
            rw [if_neg Bool.false_ne_true]
            exact ho _ _ _ R1
          | true =>
            dsimp only
            rw [if_pos rfl]
            refine ⟨fun σ' H' => ∃ env G, RSG X.K S He Ge G σ' H' env ∧ whlN (fun _ => .ok true) fb k env = some o, fun σ' H' z => ⟨k, Nat.lt_succ_self _, z⟩, S, He, Ge, G1, e, me0, R1, ?_⟩
            dsimp only at h0
            show OutS X.K ca W S He Ge _ (evSs F e b)
            cases eb : evSs F e b with
            | next e1 => rw [eb] at h0; exact fun σ2 H2 G2 R3 => ⟨e1, G2, R3, h0⟩
            | cont e1 => rw [eb] at h0; exact fun σ2 H2 G2 R3 => ⟨e1, G2, R3, h0⟩
            | brk e1 => rw [eb] at h0; cases h0; exact ho
            | ret x => rw [eb] at h0; cases h0; exact ho
            | exc c2 e1 => rw [eb] at h0; cases h0; exact ho
            | bad => rw [eb] at h0; cases h0; exact ho.elim
        | _ =>
          cases h0
          exact ho.elim
theorem putF_at {v : V} : ∀ {l : List Str} {us : List V} {j : Nat} {x : Str}, l.Nodup → l[j]? = some x → j < us.length → putF x v (l.zip us) = l.zip (us.set j v)
  | [], us, j, x, _, h, _ => by simp at h
  | a :: l, [], j, x, _, _, h => by simp at h
  | a :: l, u :: us, 0, x, nd, h, _ => by
    simp at h
    subst h
    simp [putF]
  | a :: l, u :: us, j + 1, x, nd, h, hj => by
    simp only [List.getElem?_cons_succ] at h
    rw [List.nodup_cons] at nd
    have z : a ≠ x := fun e => by rw [e] at nd; exact nd.1 (List.mem_of_getElem? h)
    rw [List.zip_cons_cons, List.set_cons_succ, List.zip_cons_cons]
    have ih := putF_at (v := v) (us := us) nd.2 h (by simpa using hj)
    unfold putF
    rw [if_neg (by simpa using z), ih]
theorem putF_end {v : V} : ∀ {l : List Str} {us : List V} {x : Str}, l.Nodup → l[us.length]? = some x → putF x v (l.zip us) = l.zip (us ++ [v])
  | [], us, x, _, h => by simp at h
  | a :: l, [], x, nd, h => by
    simp at h
    subst h
    simp [putF]
  | a :: l, u :: us, x, nd, h => by
    simp only [List.length_cons, List.getElem?_cons_succ] at h
    rw [List.nodup_cons] at nd
    have z : a ≠ x := fun e => by rw [e] at nd; exact nd.1 (List.mem_of_getElem? h)
    rw [List.zip_cons_cons, List.cons_append, List.zip_cons_cons]
    have ih := putF_end (v := v) (us := us) nd.2 h
    unfold putF
    rw [if_neg (by simpa using z), ih]
theorem s_fld {i k j : Nat} {m : M} {y f : Str} {py ap pos : Pos} {val : Expr} (nk : isDk k = false) (c : Cls X.K (clsA X.K k)) (na : NoAttr X.K (clsA X.K k) f) (hf : (clsF k)[j]? = some f) (hv : PE X (.Name y py) (tVar i)) (hm : PE X val (rdM X.K ca W fun env => evM F env m)) (hs : swapsWith val (some (.Attribute (.Name y py) f ap)) pos.line X.env = pure false) :
    PS X (.Assign [.Attribute (.Name y py) f ap] val pos) (rdS X.K ca W me fun env => evS F env (.fld i k j m)) :=
  PS.imp (ps_fld hv hm hs) fun Dn σ H ⟨S, He, Ge, G, env, me0, R0, ho⟩ => by
    simp only [evS] at ho
    refine ⟨S, He, Ge, G, env, R0, on_okM ho fun d e v H1 G1 _ R1 p ho => ?_⟩
    unfold fldO at ho
    split at ho
    · rename_i b k' fs q
      split at ho
      · rename_i hk
        obtain ⟨hk, hj⟩ := hk
        subst hk
        obtain ⟨p0, dx, ws, c1, c2, c3, c4, c5, c6, c7⟩ := R1.b i b _ fs q
        have c3 := c3.dp nk
        have hl := dpAll_len c3
        have l10 := clsF_len k'
        refine ⟨.ref p0, c1, p0, _, dx, _, rfl, c2, c, na, by rw [List.length_zip]; omega, ?_⟩
        have done : ∀ (ws' : List V) (gs : List D), putF f v ((clsF k').zip ws) = (clsF k').zip ws' → DpAll X.K G1 ws' gs → RSG X.K S He Ge G1 σ (upd H1 p0 (.ins (clsA X.K k') dx (putF f v ((clsF k').zip ws)))) (e.set i (.ob b k' gs)) := fun ws' gs ez hz => by
          rw [ez]
          refine R1.obU (vs := ws) (ws := ws') q c1 c2 ⟨fun b u z => ?_, Same.refl _, fun b u z => ?_, fun _ _ _ z => z⟩ upd_same (FlR.of hz nk) (by rw [rg_one nk] at c5 ⊢; exact c5)
          · rw [rg_one nk] at z ⊢
            obtain ⟨n1, z⟩ := delL_some z
            rw [delL_ne n1, upd_ne fun y => n1 (List.mem_singleton.mpr y)]; exact z
          · have n1 : b ≠ p0 := ne_of_none z (c5 p0 rg_self)
            rw [rg_one nk, delL_ne fun y => n1 (List.mem_singleton.mp y), upd_ne n1]; exact R1.x.c b u z
        split at ho
        · rename_i hlt
          exact ho _ _ _ (done _ _ (putF_at (clsF_nd _) hf (by omega)) (dpAll_set j c3 p))
        · split at ho
          · rename_i he
            exact ho _ _ _ (done _ _ (putF_end (clsF_nd _) (by rw [hl, ← he]; exact hf)) (dpAll_app c3 (.cons p .nil)))
          · exact ho.elim
      · exact ho.elim
    · exact ho.elim
theorem s_new {lv i k f : Nat} {f0 : Addr} {fd : FuncData} {ps : List Str} {ms : Ms} {y z : Str} {py zp cp pos : Pos} {xe : Expr} {xs : List Expr} (nd : X.N.Nodup) (t1 : X.N[i]? = some y) (t2 : L2.Loc X.env.scope y) (t3 : X.fn y = true ∨ X.env.scope.names.lookup y = some .local) (M0 : Mk X.K (clsA X.K k) f0) (hb : Binds X.K fd ps [])
    (F0 : FnOk X.prog X.w X.K X.mg X.base (L2N.CX X.prog X.w) lv f0 fd ps (spM T ca X.K n f k)) (hr : Room (lv + 1) X.A) (hg : Gl X z) (hmg : X.mg z = some (.ref (clsA X.K k))) (hdb : (z == ("__debug__" : Str)) = false) (tk : L2N.Takes X W)
    (ha : PA X (xe :: xs) (rdMs X.K ca W fun env => evMs (evc T n) env ms)) (hn : (xe :: xs).all notStar = true) :
    PS X (.Assign [.Name y py] (.Call (.Name z zp) (xe :: xs) [] cp) pos) (rdS X.K ca W me fun env => evS (evc T n) env (.new i k f ms)) :=
  PS.imp (ps_set nd t1 t2 (pe_makeSD (E := WE W) M0 F0 hr hg hmg hb (fun σ => L2N.passAt tk σ) ha hdb hn) (sw_false rfl) t3) fun Dn σ H ⟨S, He, Ge, G, env, me0, R0, ho⟩ => by
    simp only [evS] at ho
    refine ⟨S, He, Ge, G, env, R0, ?_⟩
    dsimp only
    cases em : evMs (evc T n) env ms with
    | bad => rw [em] at ho; exact ho.elim
    | exc c e => rw [em] at ho; exact fun H1 G1 R1 => ho _ _ _ R1
    | ok ds e =>
      rw [em] at ho
      intro vs H1 G1 R1 s1 p1
      refine make_rd R1 p1 (Q := fun x H2 => _) ?_
      dsimp only [RM.bind] at ho
      unfold makeM at ho
      cases eo : metO (evc T n f (.tuple [] :: ds)) with
      | bad => rw [eo] at ho; exact ho.elim
      | exc c => rw [eo] at ho; exact fun H2 G2 R2 => ho _ _ _ R2
      | ok r =>
        rw [eo] at ho
        obtain ⟨d, fs⟩ := r
        cases d with
        | none => exact fun x dx H2 G2 ws n1 e1 g1 g2 g3 => ho _ _ _ (R1.obN e1 n1 g1 g2 g3)
        | _ => exact ho.elim
end
end Cw

set_option Elab.async false
set_option linter.all false
set_option maxRecDepth 100000
set_option maxHeartbeats 4000000
/-! While an exception is handled: lists walked to their end, sums, a comprehension. -/
namespace Cw
open PySem PySem.Spec PyProof.Rows L2 HotX

section
variable {prog : Program} {w : World} {A : Around} {E : Value → Shared → Prop} {s : Shared}
theorem hot_keep {x1 : Addr} {h h' : Heap} (hot : HotAt A x1 h) (k : ∀ o, h.get? x1 = some o → h'.get? x1 = some o) : HotAt A x1 h' := by
  obtain ⟨a, o, vs, e, d, c⟩ := hot
  exact ⟨a, o, vs, k o e, d, c⟩
theorem next_end_hot {it lst x1 : Addr} {i : Nat} {items : Array Value} {Q : Option Value → Shared → Prop} (hot : HotAt A x1 s.heap) (hne : x1 ≠ it) (hit : s.heap.IsListIter it lst i) (hl : s.heap.IsList lst items) (hx : items[i]? = none)
    (hQ : ∀ h', Heap.ExtBut it s.heap h' → Q none { s with heap := h' }) : wpAny (model prog w) A (pyNext (.ref it)) Q E s := by
  obtain ⟨o, ho, hc, hd⟩ := id hit
  obtain ⟨ol, hol, hcl, nl, hdl⟩ := hl
  obtain ⟨hh, o1, vs1, h1, d1, c1⟩ := hot
  unfold pyNext
  refine wpAny_bind (wpAny_attempt (wpAny_callSpecial?_slot (name := Str.ofString "__next__") hit.typeIs slot_listiter_next (wpAny_call_entry slot_listiter_next hit.typeIs entry_listiter_next ?body (args_listiter_next _))))
  case body =>
    show wpAny _ _ (field (.ref it) 0 >>= _) _ _ s
    refine wpAny_bind (wpAny_field ho hd (x := .ref lst) rfl ?_)
    show wpAny _ _ (if (Value.ref lst == Value.none) = true then _ else _) _ _ s
    rw [if_neg (show ¬ ((Value.ref lst == Value.none) = true) from Bool.false_ne_true)]
    show wpAny _ _ (field (.ref it) 1 >>= _) _ _ s
    refine wpAny_bind (wpAny_field ho hd (x := .int i 0) rfl ?_)
    show wpAny _ _ (seqItems? (.ref lst) >>= _) _ _ s
    refine wpAny_bind (wpAny_seqItems hol hdl ?_)
    simp only [Int.toNat_natCast, hx]
    refine wpAny_bind (wpAny_rule (wpAny_bind (wpAny_setField ho hd (by simp) ?_)))
    have k1 := Heap.SameBut.update s.heap it (Obj.mapFields (fun x => x.setIfInBounds 0 Value.none))
    show wpAny _ _ (newExc (.type "StopIteration") [] >>= _) _ _ _
    refine wpAny_bind ?_
    simp only [newExc, newTuple]
    refine wpAny_bind (wpAny_newObj_type ?_ (by size_fits))
    refine wpAny_bind (m := firstArgMember _ _) (wpAny_of_eq (a := Value.none) (by first | rfl | (simp only [firstArgMember]; rfl)) ?_)
    refine wpAny_newObj_type ?_ (by size_fits)
    have e1 : ∀ (g : Array Value → Array Value), (s.heap.update it (Obj.mapFields g)).get? x1 = some o1 := fun g => by rw [Heap.get?_update_other _ _ (Ne.symm hne)]; exact h1
    refine raiseNew_hot ⟨hh, o1, vs1, Heap.get?_push_of_some _ (Heap.get?_push_of_some _ (e1 _)), d1, c1⟩ (Nat.ne_of_lt (Heap.lt_size (Heap.get?_push_of_some _ (e1 _)))) (Heap.get?_push_size _ rfl) rfl (by first | (simp; done) | (simp; omega) | (simp only [Array.size_append]; simp; omega)) ?_
    refine wpAny_bind (wpAny_isInstance (T := "StopIteration") (b := true) ⟨_, Heap.get?_update_self _ (Heap.get?_push_size _ rfl) rfl, rfl⟩ isSubtype_stop ?_)
    refine wpAny_pure (hQ _ fun b u nb e => ?_)
    have e3 : ∀ (g : Array Value → Array Value), (s.heap.update it (Obj.mapFields g)).get? b = some u := fun g => by rw [Heap.get?_update_other _ _ (Ne.symm nb)]; exact e
    exact (Heap.get?_update_other _ _ (Nat.ne_of_gt (Heap.lt_size (Heap.get?_push_of_some _ (e3 _))))).trans (Heap.get?_push_of_some _ (Heap.get?_push_of_some _ (e3 _)))
theorem walks_hot {x1 : Addr} (I ax : Addr) (hne : ax ≠ I) (hx : x1 ≠ I) (items : Array Value) :
    Walks prog w A I [I, ax, x1] [I] items.size (fun i v => items[i]? = some v) (fun i h => h.IsListIter I ax i ∧ h.IsList ax items ∧ HotAt A x1 h) where
  sub := fun b hb => by simp at hb; simp [hb]
  frame := fun i h h' st hk => ⟨st.1.at fun o e => hk I (by simp) o e, st.2.1.at fun o e => hk ax (by simp) o e, hot_keep st.2.2 fun o e => hk x1 (by simp) o e⟩
  item := fun i s Q E hi st hQ => by
    refine wpAny_pyNext_list_item st.1 st.2.1 (x := items[i]) (by simp [hi]) fun h' hit' hs' => ?_
    have kk : ∀ b o, b ∉ [I] → s.heap.get? b = some o → h'.get? b = some o := fun b o hb e => hs'.extBut b o (fun h => hb (by simp [h])) e
    exact hQ _ h' s.toks (by simp [hi]) ⟨hit', st.2.1.extBut hs'.extBut hne, hot_keep st.2.2 fun o e => kk x1 o (by simpa using hx) e⟩ kk
  done := fun s Q E st hQ => next_end_hot st.2.2 hx st.1 st.2.1 (by simp) fun h' he' => hQ h' s.toks fun b o hb e => he' b o (fun h => hb (by simp [h])) e
  self := fun i s Q E st hQ => wpAny_pyIter_listiter st.1 hQ
theorem sum_hot {l x1 : Addr} {its : List Value} {ns : List Int} {Q : Value → Shared → Prop} (hot : HotAt A x1 s.heap) (hl : s.heap.IsList l its.toArray) (hi : IntsAre its ns)
    (h : ∀ h' tk t', (∀ b o, s.heap.get? b = some o → h'.get? b = some o) → Q (.int ns.sum t') { s with heap := h', toks := tk }) : wpAny (model prog w) A (call (.builtin "sum") [.ref l]) Q E s := by
  obtain ⟨xs, e⟩ := hi.allInts.items
  have hn : numsOf (intItems xs).toList = ns := by rw [← e]; exact hi.numsOf
  rw [nums_intItems] at hn
  rw [e] at hl
  have lx : x1 < s.heap.objs.size := by obtain ⟨_, o, _, e1, _⟩ := hot; exact Heap.lt_size e1
  refine call_sum_walkG (iter_intList hl fun s2 es st hfp hlI => ?_)
  subst es
  refine ⟨_, _, _, _, _, _, numAt xs, rfl, walks_hot (A := A.in1) (x1 := x1) _ l hlI (Nat.ne_of_lt lx) (intItems xs), ⟨st.1, st.2, hot_keep hot fun o q => Heap.get?_push_of_some _ q⟩, fun b hb => ?_, (fun _ _ => intItems_at), fun h' tk t' hk => ?_⟩
  · rcases List.mem_cons.mp hb with rfl | hb
    · exact hfp _ (by simp)
    · rcases List.mem_cons.mp hb with rfl | hb
      · exact hfp _ (by simp)
      · have eb : b = x1 := by simpa using hb
        subst eb
        exact Nat.lt_trans lx (hfp _ List.mem_cons_self)
  · have z := h h' tk t' (old_kept hk)
    have e2 : preSum (numAt xs) (intItems xs).size = ns.sum := by
      have e3 : (intItems xs).size = xs.size := by simp [intItems]
      rw [e3, preSum_eq, List.take_of_length_le (by simp), hn]
    rw [e2]
    exact z
end
section
variable {X : Cx}
theorem paired_ints : ∀ {bs : List Bool} {vs ys : List Value}, vs = bs.map Value.bool → Paired (fun v y => ∃ b t, v = Value.bool b ∧ y = Value.int (if b then 1 else 0) t) vs ys → IntsAre ys (bs.map fun b => if b then (1 : Int) else 0)
  | [], vs, ys, e, p => by
    subst e
    cases p
    exact .nil
  | b :: bs, vs, ys, e, p => by
    subst e
    cases p with
    | cons h r =>
      obtain ⟨c, t, h1, h2⟩ := h
      cases h1
      subst h2
      exact .cons _ _ (paired_ints rfl r)
theorem vals_bools : ∀ {bs : List Bool} {us : List Value}, Vals (bs.map V.bl) us → us = bs.map Value.bool
  | [], us, r => by cases r; rfl
  | b :: bs, us, r => by
    cases r with
    | cons r1 r2 =>
      have e := vals_bools r2
      have e1 : _ = Value.bool b := r1
      rw [e, e1]
      rfl
/-- sum([int(flag) for flag in flags]) -/
theorem pe_sumHot {i : Nat} {y z : Str} {p0 p1 p2 p3 p4 p5 cp lp : Pos} {scope : Scope} (hc : L2H.HotC X) (hgs : Gl X "sum") (hms : X.mg "sum" = none) (hmi : X.mg "int" = none) (hN : X.N[i]? = some y) (hv : Vis X.env.scope y) (hd : (y == ("__debug__" : Str)) = false) (hcd : (y == ("__classdict__" : Str)) = false)
    (hfree : ∀ v ∈ scope.names, v.2 ≠ .free) (hcell : ∀ v ∈ scope.names, v.2 ≠ .cell) (hkind : scope.kind = .function) (hnames : ∀ v ∈ scope.names, v.2 = .local → scope.names.lookup v.1 = some .local) (hz : scope.names.lookup z = some .local) (hzd : (z == ("__debug__" : Str)) = false) (hi : scope.names.lookup ("int" : Str) = some .globalImplicit) :
    PE X (.Call (.Name "sum" p0) [.ListComp (.Call (.Name "int" p1) [.Name z p2] [] p3) [⟨.Name z p4, .Name y p5, [], 0⟩] scope lp] [] cp) (fun σ H Q => ∃ a bs, σ[i]? = some (some (.ref a)) ∧ SqL X.K H a (bs.map V.bl) ∧ Q (.int (cntB bs)) H) := by
  refine ⟨fun pins s σ H Q I ⟨a, bs, e1, e2, q⟩ => ?_⟩
  refine wpAny_Call_Name_kw (ld_blt I hgs hms boot_sum ?_)
  refine PyProof.Rows.callWith_builtin1 (args_cons ?_ rfl) rfl rfl
  refine wpAny_ListComp_walk (fun _ => true) (fun v y => ∃ b t, v = Value.bool b ∧ y = Value.int (if b then 1 else 0) t) hfree hcell hkind hnames hz (thn ((pe_var hN hv hd hcd).run pins s σ H (fun v H1 => v = .ref a ∧ H1 = H) I ⟨_, e1, rfl, rfl⟩) fun u s1 ⟨v, H1, I1, r1, q1, q2⟩ => ?_) (fun _ => rfl)
  subst q1 q2
  obtain rfl : u = Value.ref a := r1
  obtain ⟨its, rv, hl, hz2⟩ := I1.list e2
  have ev := vals_bools rv
  subst ev
  obtain ⟨x1, hot⟩ := hc.at I1
  have lx : x1 < s1.heap.objs.size := by obtain ⟨_, o, _, e1, _⟩ := hot; exact Heap.lt_size e1
  have hl' := hl.isList
  have la : a < s1.heap.objs.size := by obtain ⟨_, e, _⟩ := hl'; exact Heap.lt_size e
  obtain ⟨mb, b1, b2⟩ := I1.mod.blt
  refine wpAny_pyIter_list hl' ?_
  have old : ∀ {h' : Heap}, (∀ b o, b ∉ [s1.heap.objs.size] → (s1.heap.push { cls := .type "list_iterator", data := .fields #[.ref a, .int 0 0] }).get? b = some o → h'.get? b = some o) → ∀ b o, s1.heap.get? b = some o → h'.get? b = some o := fun {h'} hk b o e => old_kept hk b o e
  refine ⟨_, _, _, _, _, _, rfl, walks_hot (x1 := x1) s1.heap.objs.size a (Nat.ne_of_lt la) (Nat.ne_of_lt lx) (bs.map Value.bool).toArray, ?_, ⟨⟨_, Heap.get?_push_size _ rfl, rfl, rfl⟩, hl'.push _, hot_keep hot fun o q => Heap.get?_push_of_some _ q⟩, fun b hb => ?_, ⟨fun C j v s3 m3 E' hv3 hn3 hm3 hk3 ht3 => ?_, fun C j v s3 m3 E' hv3 hp3 hn3 hm3 hk3 ht3 => ?_⟩, fun D h' tk ys vs hD hlD hpl hlen hP hF hk => ?_⟩
  · have := hz2
    simpa using this
  · show b < (s1.heap.push _).objs.size
    rw [Heap.size_push]
    have hb2 : b = s1.heap.objs.size ∨ b = a ∨ b = x1 := by simpa using hb
    rcases hb2 with rfl | rfl | rfl
    · exact Nat.lt_succ_self _
    · exact Nat.lt_succ_of_lt la
    · exact Nat.lt_succ_of_lt lx
  · exact wpAny_pure ⟨rfl, s3.heap, s3.toks, rfl, fun _ _ e => e⟩
  · have kk := old (h' := s3.heap) hk3
    obtain ⟨bv, rfl⟩ : ∃ bv, v = Value.bool bv := by
      have q3 : (bs.map Value.bool).toArray[j]? = some v := hv3
      simp only [List.getElem?_toArray, List.getElem?_map] at q3
      cases q4 : bs[j]? with
      | none => rw [q4] at q3; cases q3
      | some bv => rw [q4] at q3; exact ⟨bv, (Option.some.inj q3).symm⟩
    refine Call_ (Calls.Name_function_global (env := compEnv scope C X.env) hkind hi (Calls.loadGlobal_builtin (env := compEnv scope C X.env) (mg := X.mg) (mb := mb) (v := .type "int") ?_ hmi ?_ ((b2 "int" (by decide)).trans boot_int) ?_)) rfl
    · show s3.heap.Ns X.env.globals X.mg
      rw [I1.ok.glob]
      exact (I1.mod.glob.keeps I1.bk).keeps kk
    · show s3.heap.Ns X.env.builtins mb
      rw [I1.ok.blt]
      exact (b1.keeps I1.bk).keeps kk
    · refine PyProof.Rows.callWith_type1 (args_cons (wpAny_Name (wpAny_loadName_local (env := compEnv scope C X.env) hkind hz hn3 hm3 ?_) hzd) rfl) rfl rfl
      refine args_nil ?_
      exact call_int_bool ⟨⟨bv, _, rfl, rfl⟩, _, _, rfl, fun _ _ e => e⟩
  · refine args_nil ?_
    have kk := old hk
    have hv2 : vs = bs.map Value.bool := by
      apply List.ext_getElem?
      intro j
      by_cases hj : j < vs.length
      · have := hP j vs[j] (List.getElem?_eq_getElem hj)
        rw [List.getElem?_eq_getElem hj]
        simpa using this.symm
      · rw [List.getElem?_eq_none (by omega), List.getElem?_eq_none (by simp at hlen ⊢; omega)]
    have hF2 : Paired (fun v y => ∃ b t, v = Value.bool b ∧ y = Value.int (if b then 1 else 0) t) vs ys.toList := by
      have : vs.filter (fun _ => true) = vs := List.filter_eq_self.mpr fun _ _ => rfl
      rw [this] at hF
      exact hF
    have hI := paired_ints hv2 hF2
    refine sum_hot (s := { s1 with heap := h', toks := tk }) (its := ys.toList) (hot_keep hot fun o e => kk x1 o e) (by simpa using hlD) hI fun h2 tk2 t2 hk2 => ?_
    exact ⟨.int _, H1, I1.kept fun b o e => hk2 b o (kk b o e), ⟨_, rfl⟩, q⟩
end
end Cw

set_option Elab.async false
set_option linter.all false
set_option maxRecDepth 100000
set_option maxHeartbeats 4000000
/-! A def that tells an exception's word, called where the exception is handled. -/
namespace Cw
open PySem PySem.Spec PyProof.Rows L2

/-! ### a def's promise, of the exception that is handled -/
theorem fnW_of {CX : CXT} {P : Program} {w : World} {K : PySem.W.Frag} {mg : Str → Option Value} {base : Heap} {k : Nat} {f : Addr} {fd : FuncData} {x : Str} {params : Arguments} {body : List Stmt} {scope : Scope} {N ps : List Str} {sp : Addr × Obj → Sp}
    (F : FunD K x x params body scope [] [] f fd) (S : FnScope N ps scope) (len : ∀ q vs H Q E, sp q vs H Q E → vs.length = ps.length)
    (hbody : ∀ (cdv : Value) (A : Around) (out : List Env) (s : Shared) (H : Hp) (vs : List V) (Q : VK) (E : XK) (q : Addr × Obj), L2H.Hot1 A q → L2H.RoomH k (A.deeper (envOfC x scope s.heap.objs.size f cdv)) → sp q vs H Q E →
      ∃ t, PSs (L2H.cxH CX P w K mg base N x scope f cdv A out s H E q) body t ∧ t { nx := fun _ H' => Q .non H', rt := Q } (L2.start N vs) H) : FnW P w K mg base CX (k + 1) f fd ps sp := by
  obtain ⟨oc, od, dV, kV, doc, pm, an, cdv, ct, osl, rfl, lk, hcd, _, _⟩ := F.ex
  refine ⟨len, fun A out s H args us vs Q E q hr hot pin e0 hb r hq => ?_⟩
  have hl := len _ _ _ _ _ hq
  have inK : K.In s.heap := e0.mod.kin.keeps fun b o e => (e0.bs b o e).1
  have lim : s.heap.NoLimit := e0.mod.nolimit.keeps fun b o e => (e0.bs b o e).1
  refine codeAny_call_function hr.depth (inK _ _ lk) rfl S.co S.gen rfl (PySem.W.codeRec_of inK hcd) (hb _ _ _ _ ?_)
  refine wpAny_newFunctionEnv_cells S.kind (fun y hy => ?_) fun env he s1 x1 => ?_
  · rcases S.par y.1 (List.of_mem_zip (show (y.1, y.2) ∈ ps.zip us from hy)).1 with z | z
    · exact .inl z
    · exact .inr ⟨z, PySem.W.cellsFrom_some _ _ _ (.inl z)⟩
  · subst he
    refine ⟨lim.keeps x1.toInCall.keep, codeAny_func ?_⟩
    obtain ⟨t, ht, hq2⟩ := hbody cdv A out s H vs Q E q hot (hr.deeper _) hq
    refine wpAny_mono (ht.run [] s1 (L2.start N vs) H _ (L2H.inv_startH S pin e0 hl r x1) hq2) (fun fl s2 hs => ?_) fun e s2 hs => hs
    cases fl with
    | ret u =>
      obtain ⟨v, σ2, H2, J, rv, z⟩ := hs
      exact ⟨v, H2, J.os, J.bare, J.base, J.hok, rv, z⟩
    | next =>
      obtain ⟨σ2, H2, J, z⟩ := hs
      exact ⟨.non, H2, J.os, J.bare, J.base, J.hok, rfl, z⟩
    | brk => obtain ⟨_, _, _, z⟩ := hs; exact z.elim
    | cont => obtain ⟨_, _, _, z⟩ := hs; exact z.elim
section
variable {X : Cx} {CX : CXT} {k : Nat} {f : Addr} {fd : FuncData} {ps : List Str} {sp : Addr × Obj → Sp} {E : XK} {x : Str} {e : Expr} {t : TA} {np pos : Pos}
theorem pe_callW (F : FnW X.prog X.w X.K X.mg X.base CX k f fd ps sp) (hr : L2H.RoomH k X.A) {q : Addr × Obj} (hq : L2H.Hot1 X.A q) (hp : q ∈ X.pn) (hg : Gl X x) (hm : X.mg x = some (.ref f)) (hk : PySem.W.keepIn X.K (.ref f) = true) (hb : Binds X.K fd ps []) (hx : ∀ σ, PassesAt CX X σ E)
    (ha : PA X [e] t) (hdb : (x == ("__debug__" : Str)) = false) (ns : notStar e = true) : PE X (.Call (.Name x np) [e] [] pos) (fun σ H Q => t σ H fun vs H1 => sp q vs H1 Q E) := by
  refine ⟨fun pins s σ H Q I h => ?_⟩
  refine wpAny_Call_Name_kw (ld_glob I hg hm ?_ hdb)
  refine PySem.W.callWith_K (h₀ := X.base) I.ok.mod.kin hk (thn (ha.run pos pins s σ H _ I h) fun us s1 ⟨vs, H1, I1, r, z⟩ => ⟨I1.kIn, ?_⟩) (star_cons ns) rfl
  have lu : us.length = ps.length := by rw [← r.length]; exact F.len _ _ _ _ _ z
  have b := hb s1 us I1.kIn (by rw [List.append_nil]; exact lu)
  rw [List.append_nil] at b
  have Pq := I1.pin q (List.mem_append_left _ hp)
  refine wpAny_call (codeAny_mono (F.go X.A X.stack s1 H1 ⟨us, []⟩ us vs Q E q hr hq ⟨Pq.1, Pq.2.1, fun y => (List.mem_cons.mp (I1.stkSub q.1 y)).elim Pq.2.2.1 Pq.2.2.2.1, Pq.2.2.2.2⟩ I1.env0 b r z) fun r2 s2 y => ?_)
  cases r2 with
  | error e => exact hx σ pins H1 s1 e s2 I1 y
  | ok fl =>
    cases fl with
    | ret u => exact I1.after y
    | _ => exact y.elim
end

/-! ### isinstance of the handled exception -/
section
variable {X : Cx} {a D : Addr} {oe : Obj}
theorem call_isW (hp : (a, oe) ∈ X.pn) (C : ExcC X.K D) (hz : Zc (.ref D) none oe) (hf : ∃ vs, oe.data = .fields vs) : CallR X (.builtin "isinstance") (rIsE X.K D a) := by
  intro pins s σ H xs us Q I r ⟨c, cv, b, ex, hcv, e, q⟩
  subst ex
  obtain ⟨u1, u2, rfl, r1, r2⟩ := vals2 r
  obtain rfl : u1 = Value.ref a := r1
  obtain rfl := hcv _ r2
  have hget := (I.pin (a, oe) (List.mem_append_left _ hp)).1
  obtain ⟨vs, hv⟩ := hf
  have J : PySem.W.InstAt s.heap a oe D none := by
    obtain ⟨oc, od, oda, osl⟩ := oe
    obtain ⟨h1, h2⟩ := hz
    dsimp only at h1 h2 hv
    subst h1 h2 hv
    exact ⟨hget, rfl, rfl, trivial⟩
  exact PySem.W.kia_one (PySem.W.handS_kitx_exc C.hg C.hk C.hs C.hd C.ha C.hn C.ht C.hm) I.kIn J e (fun z => nomatch z) fun tk => ⟨.bl b, H, I.kept (t' := tk) fun _ _ z => z, rfl, q⟩
/-- what the body of such a def leans on -/
structure WordCx (X : Cx) (cs : List Str) (sc : Scope) (c : Str) (a D : Addr) (oe : Obj) (fl2 : Str) : Prop where
  hN : X.N = (["e", fl2] : List Str)
  hsc : X.env.scope = sc
  hfn : ∀ y, X.fn y = true
  pin : (a, oe) ∈ X.pn
  hot : L2H.HotC X
  un : X.A.units + 65 < cLine
  exc : ExcC X.K D
  zc : Zc (.ref D) none oe
  fl : ∃ vs, oe.data = .fields vs
  blt : ∀ x ∈ (["isinstance", "sum", "int", "ValueError", "any"] : List Str), X.mg x = none
  cls : ∀ k ∈ cs, ∃ C, X.mg k = some (.ref C) ∧ PySem.W.kitOne X.K (.ref D) (.ref C) = some (isSub c k)
  ve : PySem.W.kitOne X.K (.ref D) (.type "ValueError") = some true

/-- any(flags) where an exception is handled -/
theorem cr_anyHot {X : Cx} (hc : L2H.HotC X) : CallR X (.builtin "any") (rAny X.K) := by
  intro pins s σ H vs us Q I r h
  obtain ⟨a, bs, rfl, hs, q⟩ := h
  obtain ⟨its, rv, hl, _⟩ := I.list hs
  rw [Vals.ref1 r]
  have hb := rv.bls
  obtain ⟨x1, hot⟩ := hc.at I
  have lx : x1 < s.heap.objs.size := by obtain ⟨_, o, _, e1, _⟩ := hot; exact Heap.lt_size e1
  have hl' := hl.isList
  have la : a < s.heap.objs.size := by obtain ⟨_, e, _⟩ := hl'; exact Heap.lt_size e
  refine call_any_walk (iter_any hl.isList fun s₂ e2 st hne => ?_)
  subst e2
  refine ⟨_, _, _, _, _, _, _, rfl, walks_hot (A := X.A.in1) (x1 := x1) _ a hne (Nat.ne_of_lt lx) its.toArray, ⟨st.1, st.2, hot_keep hot fun o q => Heap.get?_push_of_some _ q⟩, truth_bools hb, fun h' tk hk => ?_⟩
  refine ⟨.bl _, H, I.kept fun b o eo => hk b o (fun hmem => ?_) (Heap.get?_push_of_some _ eo), ?_, q⟩
  · rcases List.mem_cons.mp hmem with e1 | hmem
    · exact absurd (e1 ▸ Heap.lt_size eo) (Nat.lt_irrefl _)
    · cases hmem
  · show Value.bool _ = Value.bool _
    rw [← L2.any_range, hb, List.size_toArray, List.length_map]
/-! ### the look at such a def -/
def glW (sc : Scope) (x : Str) : Bool := decide (sc.names.lookup x = some .globalImplicit) && !(x == ("__debug__" : Str))
def isW (sc : Scope) (k : Str) (x : Expr) : Bool := match x with
  | .Call (.Name f _) [.Name e _, .Name y _] [] _ => decide (f = "isinstance") && decide (e = "e") && decide (y = k) && glW sc k
  | _ => false
def allW (sc : Scope) : List Str → List Expr → Bool
  | [], [] => true
  | k :: ks, x :: xs => isW sc k x && allW sc ks xs
  | _, _ => false
def strsW : List Str → List Expr → Bool
  | [], [] => true
  | k :: ks, x :: xs => (match x with
    | .Constant (.str c) _ _ => decide (c = k)
    | _ => false) && strsW ks xs
  | _, _ => false
def sumW (sc : Scope) (x : Expr) : Bool := match x with
  | .Call (.Name f _) [.ListComp (.Call (.Name g _) [.Name z _] [] _) [⟨.Name z2 _, .Name y _, [], 0⟩] s2 _] [] _ => decide (f = "sum") && decide (g = "int") && decide (z = z2) && decide (y = "flags") && decide (sc.names.lookup ("sum" : Str) = some .globalImplicit) &&
      (s2.names.all fun v => !decide (v.2 = .free) && !decide (v.2 = .cell) && (!decide (v.2 = .local) || decide (s2.names.lookup v.1 = some .local))) && (match s2.kind with | .function => true | _ => false) && decide (s2.names.lookup z2 = some .local) && !(z2 == ("__debug__" : Str)) && decide (s2.names.lookup ("int" : Str) = some .globalImplicit)
  | _ => false
def testW (sc : Scope) (x : Expr) : Bool := match x with
  | .BoolOp .Or [.Compare a [.NotEq] [.Constant (.int i) _ _] _, .UnaryOp .Not b _] _ => sumW sc a && decide (i = 1) && isW sc "ValueError" b
  | _ => false
def endW (sc : Scope) (ws : List Str) (x : List Stmt) : Bool := match x with
  | [.If c [.Return (some (.Constant (.str o) _ _)) _] [] _, .Return (some (.Subscript (.List ss _) (.Call (.Attribute (.Name y _) m ap) [.Constant (.bool b) _ _] [] cp) _)) _] =>
    testW sc c && decide (o = "other") && strsW ws ss && decide (y = "flags") && decide (m = "index") && decide (b = true) && (ap.endLine == cp.line)
  | _ => false
def wordB (sc : Scope) (cs ws : List Str) (x : List Stmt) : Bool := decide (sc.names.lookup ("e" : Str) = some .local) && decide (sc.names.lookup ("flags" : Str) = some .local) && decide (sc.names.lookup ("isinstance" : Str) = some .globalImplicit) && decide (cs.length ≤ 20) && decide (cs.length = ws.length) && (match x with
  | .Assign [.Name y _] (.List es _) _ :: .Expr (.Call (.Attribute (.Name y2 _) m ap) [e5] [] cp) _ :: r => decide (y = "flags") && decide (y2 = "flags") && decide (m = "append") && (ap.endLine == cp.line) && allW sc cs (es ++ [e5]) && endW sc ws r
  | .Assign [.Name y _] (.List es _) _ :: r => decide (y = "flags") && allW sc cs es && endW sc ws r
  | _ => false)
def truB (sc : Scope) (cs : List Str) (x : List Stmt) : Bool := decide (sc.names.lookup ("e" : Str) = some .local) && decide (sc.names.lookup ("others" : Str) = some .local) && decide (sc.names.lookup ("isinstance" : Str) = some .globalImplicit) && decide (sc.names.lookup ("any" : Str) = some .globalImplicit) && decide (cs.length ≤ 20) && (match cs, x with
  | k :: ks, [.Assign [.Name y _] (.List es _) _, .Return (some (.BoolOp .And [xa, xb, .UnaryOp .Not (.Call (.Name an _) [.Name y2 _] [] _) _] _)) _] => decide (y = "others") && decide (y2 = "others") && decide (an = "any") && allW sc ks es && isW sc k xa && isW sc "ValueError" xb
  | _, _ => false)
/-- the slots and the body of a def that tells of an exception -/
def wN (k : Nat) : Str := if isTr k = true then "others" else "flags"
def wrdB (k : Nat) (sc : Scope) (x : List Stmt) : Bool := if isTr k = true then truB sc (wtab k) x else wordB sc (wtab k) (wtab k) x
section
variable {X : Cx} {a D : Addr} {oe : Obj} {cs ws : List Str} {sc : Scope} {c fl2 : Str}
theorem WordCx.gl (Z : WordCx X cs sc c a D oe fl2) {x : Str} (h : sc.names.lookup x = some .globalImplicit) : Gl X x := by
  show X.env.scope.names.lookup x = _
  rw [Z.hsc]; exact h
theorem WordCx.var (Z : WordCx X cs sc c a D oe fl2) (h : sc.names.lookup ("e" : Str) = some .local) {p : Pos} : PE X (.Name "e" p) (tVar 0) :=
  pe_var (by rw [Z.hN]; rfl) (.inl (by rw [Z.hsc]; exact h)) (by decide) (by decide)
theorem WordCx.flg (Z : WordCx X cs sc c a D oe "flags") (h : sc.names.lookup ("flags" : Str) = some .local) {p : Pos} : PE X (.Name "flags" p) (tVar 1) :=
  pe_var (by rw [Z.hN]; rfl) (.inl (by rw [Z.hsc]; exact h)) (by decide) (by decide)
/-- isinstance(e, K) -/
theorem isW_ok (Z : WordCx X cs sc c a D oe fl2) (he : sc.names.lookup ("e" : Str) = some .local) (hi : sc.names.lookup ("isinstance" : Str) = some .globalImplicit) {k : Str} {x : Expr} (hk : k ∈ cs) (h : isW sc k x = true) :
    PE X x (fun σ H Q => σ[0]? = some (some (.ref a)) ∧ Q (.bl (isSub c k)) H) ∧ notStar x = true := by
  unfold isW at h
  split at h
  · simp only [Bool.and_eq_true, decide_eq_true_eq, glW, Bool.not_eq_true'] at h
    obtain ⟨⟨⟨h1, h2⟩, h3⟩, h4, h5⟩ := h
    subst h1 h2 h3
    obtain ⟨C, m1, m2⟩ := Z.cls _ hk
    refine ⟨PE.imp (pe_callB (call_isW Z.pin Z.exc Z.zc Z.fl) (Z.gl hi) (Z.blt _ (by simp)) boot_isinstance (pa_cons (Z.var he) (pa_cons (pe_glob (v := .ref C) (Z.gl h4) m1 rfl h5) pa_nil rfl) rfl) (by decide) (by decide) rfl rfl) fun σ H Q ⟨e0, q⟩ => ?_, rfl⟩
    exact ⟨_, e0, .ref C, .ref C, _, rfl, fun u r => r, m2, q⟩
  · cases h
theorem allW_ok (Z : WordCx X cs sc c a D oe fl2) (he : sc.names.lookup ("e" : Str) = some .local) (hi : sc.names.lookup ("isinstance" : Str) = some .globalImplicit) : ∀ {ks : List Str} {xs : List Expr}, (∀ k ∈ ks, k ∈ cs) → allW sc ks xs = true →
    PA X xs (fun σ H Q => σ[0]? = some (some (.ref a)) ∧ Q (ks.map fun k => V.bl (isSub c k)) H) := by
  intro ks
  induction ks with
  | nil =>
    intro xs _ h
    cases xs with
    | nil => exact PA.imp pa_nil fun σ H Q ⟨_, q⟩ => q
    | cons _ _ => cases h
  | cons k ks ih =>
    intro xs hm h
    cases xs with
    | nil => cases h
    | cons x xs =>
      unfold allW at h
      rw [Bool.and_eq_true] at h
      obtain ⟨p1, p2⟩ := isW_ok Z he hi (hm k List.mem_cons_self) h.1
      exact PA.imp (pa_cons p1 (ih (fun k hk => hm k (List.mem_cons_of_mem _ hk)) h.2) (star_cons p2)) fun σ H Q ⟨e0, q⟩ => ⟨e0, e0, q⟩
theorem strsW_ok : ∀ {ks : List Str} {xs : List Expr}, strsW ks xs = true → PA X xs (fun _ H Q => Q (ks.map V.str) H) := by
  intro ks
  induction ks with
  | nil =>
    intro xs h
    cases xs with
    | nil => exact pa_nil
    | cons _ _ => cases h
  | cons k ks ih =>
    intro xs h
    cases xs with
    | nil => cases h
    | cons x xs =>
      unfold strsW at h
      rw [Bool.and_eq_true] at h
      obtain ⟨h1, h2⟩ := h
      split at h1
      · rw [decide_eq_true_eq] at h1
        subst h1
        exact PA.imp (pa_cons pe_str (ih h2) rfl) fun σ H Q q => q
      · cases h1
/-- isinstance(e, ValueError) -/
theorem isV_ok (Z : WordCx X cs sc c a D oe fl2) (he : sc.names.lookup ("e" : Str) = some .local) (hi : sc.names.lookup ("isinstance" : Str) = some .globalImplicit) {x : Expr} (h : isW sc "ValueError" x = true) :
    PT X x (fun σ H Q => σ[0]? = some (some (.ref a)) ∧ Q true H) := by
  unfold isW at h
  split at h
  · simp only [Bool.and_eq_true, decide_eq_true_eq, glW, Bool.not_eq_true'] at h
    obtain ⟨⟨⟨h1, h2⟩, h3⟩, h4, h5⟩ := h
    subst h1 h2 h3
    have hT : ∀ p, PE X (.Name "ValueError" p) (tC (.ty "ValueError")) := fun p => pe_bltn (Z.gl h4) (Z.blt _ (by simp)) (by decide +kernel) rfl (by decide) h5
    refine ⟨fun pins s σ H Q I ⟨e0, q⟩ => (pt_val (pe_callB (call_isW Z.pin Z.exc Z.zc Z.fl) (Z.gl hi) (Z.blt _ (by simp)) boot_isinstance (pa_cons (Z.var he) (pa_cons (hT _) pa_nil rfl) rfl) (by decide) (by decide) rfl rfl) (by intro _; rfl)).run pins s σ H Q I ?_⟩
    exact ⟨_, e0, .ty "ValueError", .type "ValueError", true, rfl, fun u r => r, Z.ve, true, rfl, q⟩
  · cases h
theorem testW_ok (Z : WordCx X cs sc c a D oe "flags") (he : sc.names.lookup ("e" : Str) = some .local) (hfl : sc.names.lookup ("flags" : Str) = some .local) (hi : sc.names.lookup ("isinstance" : Str) = some .globalImplicit) {x : Expr} (h : testW sc x = true) :
    PT X x (fun σ H Q => σ[0]? = some (some (.ref a)) ∧ ∃ p bs, σ[1]? = some (some (.ref p)) ∧ SqL X.K H p (bs.map V.bl) ∧ Q (!(cntB bs == 1)) H) := by
  unfold testW at h
  split at h
  · rename_i xa i k1 p1 p2 xb p3 p4
    simp only [Bool.and_eq_true, decide_eq_true_eq] at h
    obtain ⟨⟨h1, h2⟩, h3⟩ := h
    subst h2
    have hs : PE X xa (fun σ H Q => ∃ a bs, σ[1]? = some (some (.ref a)) ∧ SqL X.K H a (bs.map V.bl) ∧ Q (.int (cntB bs)) H) := by
      unfold sumW at h1
      split at h1
      · simp only [Bool.and_eq_true, decide_eq_true_eq, List.all_eq_true, Bool.not_eq_true', Bool.or_eq_true, decide_eq_false_iff_not] at h1
        obtain ⟨⟨⟨⟨⟨⟨⟨⟨⟨g1, g2⟩, g3⟩, g4⟩, g5⟩, g6⟩, g7⟩, g8⟩, g9⟩, g10⟩ := h1
        subst g1 g2 g3 g4
        refine pe_sumHot Z.hot (Z.gl g5) (Z.blt _ (by simp)) (Z.blt _ (by simp)) (by rw [Z.hN]; rfl) (.inl (by rw [Z.hsc]; exact hfl)) (by decide) (by decide) (fun v hv => (g6 v hv).1.1) (fun v hv => (g6 v hv).1.2) ?_ (fun v hv e => ?_) g8 g9 g10
        · split at g7
          · assumption
          · cases g7
        · rcases (g6 v hv).2 with z | z
          · exact (z e).elim
          · exact z
      · cases h1
    refine PT.imp (pw_or (pt_cmpR op_ne hs pe_int (nobehind _ (by decide) (by decide))) (pw_or1 (pt_not (isV_ok Z he hi h3)))).pt fun σ H Q ⟨e0, p, bs, e1, e2, q⟩ => ?_
    refine ⟨p, bs, e1, e2, rfl, !(cntB bs == 1), ?_, ?_⟩
    · rw [dec_int]
    · cases hb : (cntB bs == 1) with
      | true => rw [hb] at q; exact ⟨e0, q⟩
      | false => rw [hb] at q; exact q
  · cases h
theorem endW_ok (Z : WordCx X cs sc c a D oe "flags") (he : sc.names.lookup ("e" : Str) = some .local) (hfl : sc.names.lookup ("flags" : Str) = some .local) (hi : sc.names.lookup ("isinstance" : Str) = some .globalImplicit) (hl : ws.length ≤ 20) {x : List Stmt} (h : endW sc ws x = true) :
    PSs X x (fun E σ H => σ[0]? = some (some (.ref a)) ∧ ∃ p bs, σ[1]? = some (some (.ref p)) ∧ H p = some (.lst (bs.map V.bl)) ∧ bs.length = ws.length ∧
      ∀ H', Grows H H' → E.rt (.str (if cntB bs = 1 then (match bs.idxOf? true with | some j => ws.getD j "" | none => "") else "other")) H') := by
  unfold endW at h
  split at h
  · simp only [Bool.and_eq_true, decide_eq_true_eq] at h
    obtain ⟨⟨⟨⟨⟨⟨h1, h2⟩, h3⟩, h4⟩, h5⟩, h6⟩, h7⟩ := h
    subst h2 h4 h5 h6
    refine PSs.imp (pss_cons (ps_if (testW_ok Z he hfl hi h1) (pss_one (ps_ret pe_str)) pss_nil) (pss_one (ps_ret (pe_ix ix_list (pe_lst (strsW_ok h3)) (pe_bm PySem.F.plainAttrs_list PySem.F.slot_list_index PySem.F.type_list_index mt_index (Z.flg hfl) (pa_cons pe_bl pa_nil rfl) rfl rfl h7 rfl rfl) (plainIx_of rfl))))) fun E σ H ⟨e0, p, bs, e1, e2, e3, q⟩ => ?_
    refine ⟨e0, p, bs, e1, SqL.of e2, ?_⟩
    cases hb : (cntB bs == 1) with
    | false =>
      have hb' : ¬ cntB bs = 1 := by simpa using hb
      have z := q H fun _ _ y => y
      rw [if_neg hb'] at z
      exact z
    | true =>
      have hb' : cntB bs = 1 := by simpa using hb
      show tNext _ σ H
      refine ⟨by rw [List.length_map, sizeLine_eq]; omega, fun r hr => ?_⟩
      have ne : p ≠ r := fun y => by rw [← y, e2] at hr; cases hr
      have g : Grows H (upd H r (.lst (ws.map V.str))) := fun b o y => by
        rw [upd_ne (fun w => by rw [w, hr] at y; cases y)]
        exact y
      have z := q _ g
      rw [if_pos hb'] at z
      have hj : ∃ j, bs.idxOf? true = some j := by
        cases q2 : bs.idxOf? true with
        | some j => exact ⟨j, rfl⟩
        | none =>
          exfalso
          rw [List.idxOf?_eq_none_iff] at q2
          have : ∀ l : List Bool, true ∉ l → cntB l = 0 := by
            intro l
            induction l with
            | nil => intro _; rfl
            | cons b l ih =>
              intro h
              have hb0 : b = false := by
                cases b with
                | false => rfl
                | true => exact (h List.mem_cons_self).elim
              subst hb0
              unfold cntB
              simp only [List.map_cons, List.sum_cons]
              have := ih fun y => h (List.mem_cons_of_mem _ y)
              unfold cntB at this
              rw [this]; rfl
          rw [this bs q2] at hb'
          cases hb'
      obtain ⟨j, hj⟩ := hj
      rw [hj] at z
      have hj1 : j < bs.length := by
        rw [List.idxOf?_eq_some_iff] at hj
        exact hj.1
      have hj2 : bs[j]? = some true := by
        rw [List.idxOf?_eq_some_iff] at hj
        rw [List.getElem?_eq_getElem hj1]
        exact congrArg some (by simpa using hj.2.1)
      have hj3 : ∀ m, m < j → bs[m]? = some false := fun m hm => by
        rw [List.idxOf?_eq_some_iff] at hj
        have y := hj.2.2 m hm
        rw [List.getElem?_eq_getElem (by omega)]
        exact congrArg some (by simpa using y)
      refine ⟨_, e1, .inl ⟨rfl, _, SqL.of (by rw [upd_ne ne]; exact e2)⟩, p, _, .bl true, j, .bl true, rfl, rfl, SqL.of (by rw [upd_ne ne]; exact e2), rfl, ?_, ?_, rfl, ?_, r, _, (j : Int), .str (ws.getD j ""), rfl, rfl, SqL.of upd_same, ?_, z⟩
      · rw [List.all_map]; exact List.all_eq_true.mpr fun _ _ => rfl
      · rw [List.getElem?_map, hj2]; rfl
      · intro m v hm hv
        rw [List.getElem?_map, hj3 m hm] at hv
        cases hv; rfl
      · have hjw : j < ws.length := by omega
        refine L2.atI_nat ?_
        rw [List.getElem?_map, List.getElem?_eq_getElem hjw, List.getD_eq_getElem?_getD, List.getElem?_eq_getElem hjw]
        rfl
  · cases h
theorem allW_snoc : ∀ {es : List Expr} {ks : List Str} {e : Expr}, allW sc ks (es ++ [e]) = true → ∃ l k, ks = l ++ [k] ∧ allW sc l es = true ∧ isW sc k e = true
  | [], ks, e, h => by
    cases ks with
    | nil => cases h
    | cons k ks =>
      rw [List.nil_append] at h
      unfold allW at h
      rw [Bool.and_eq_true] at h
      cases ks with
      | nil => exact ⟨[], k, rfl, rfl, h.1⟩
      | cons _ _ => cases h.2
  | x :: es, ks, e, h => by
    cases ks with
    | nil => cases h
    | cons k ks =>
      rw [List.cons_append] at h
      unfold allW at h
      rw [Bool.and_eq_true] at h
      obtain ⟨l, k2, e1, e2, e3⟩ := allW_snoc h.2
      refine ⟨k :: l, k2, by rw [e1]; rfl, ?_, e3⟩
      unfold allW
      rw [Bool.and_eq_true]
      exact ⟨h.1, e2⟩
theorem wordB_ok (Z : WordCx X cs sc c a D oe "flags") {x : List Stmt} (h : wordB sc cs ws x = true) :
    PSs X x (fun E σ H => σ.length = 2 ∧ σ[0]? = some (some (.ref a)) ∧ ∀ H', Grows H H' → E.rt (.str (wordW cs ws c)) H') := by
  unfold wordB at h
  simp only [Bool.and_eq_true, decide_eq_true_eq] at h
  obtain ⟨⟨⟨⟨⟨he, hfl⟩, hi⟩, hl⟩, hlw⟩, h⟩ := h
  have nd : X.N.Nodup := by rw [Z.hN]; decide
  have hset : ∀ {v : V} {σ : L2.St}, σ.length = 2 → σ[0]? = some (some (.ref a)) → (σ.set 1 (some v))[0]? = some (some (.ref a)) ∧ (σ.set 1 (some v))[1]? = some (some v) := fun {v σ} h2 h0 =>
    ⟨by rw [List.getElem?_set_ne (by decide)]; exact h0, by rw [List.getElem?_set_self (by omega)]⟩
  have mapb : ∀ l : List Str, (l.map fun k => V.bl (isSub c k)) = (flagsW l c).map V.bl := fun l => by unfold flagsW; rw [List.map_map]; rfl
  split at h
  · simp only [Bool.and_eq_true, decide_eq_true_eq] at h
    obtain ⟨⟨⟨⟨⟨h1, h2⟩, h3⟩, h4⟩, h5⟩, h6⟩ := h
    subst h1 h2 h3
    obtain ⟨l, k, e1, e2, e3⟩ := allW_snoc h5
    obtain ⟨p5, n5⟩ := isW_ok Z he hi (k := k) (by rw [e1]; simp) e3
    refine PSs.imp (pss_cons (ps_set nd (i := 1) (by rw [Z.hN]; rfl) (.inl (by rw [Z.hsc]; exact hfl)) (pe_lst (allW_ok Z he hi (ks := l) (fun k hk => by rw [e1]; simp [hk]) e2)) rfl (.inl (Z.hfn _)))
      (pss_cons (ps_expr (pe_bm PySem.F.plainAttrs_list PySem.F.slot_list_append PySem.F.type_list_append mt_append (Z.flg hfl) (pa_cons p5 pa_nil (star_cons n5)) rfl (few_one n5) h4 (star_cons n5) rfl) rfl) (endW_ok Z he hfl hi (by omega) h6))) fun E σ H ⟨e0, e4, q⟩ => ?_
    have ll : l.length + 1 = cs.length := by rw [e1]; simp
    refine ⟨e4, by rw [List.length_map, sizeLine_eq]; omega, fun p hp => ?_⟩
    obtain ⟨s0, s1⟩ := hset (v := .ref p) e0 e4
    refine ⟨.ref p, s1, .inl ⟨rfl, _, SqL.of upd_same⟩, s0, p, _, _, rfl, rfl, upd_same, by rw [List.length_map, sizeLine_eq]; omega, s0, p, flagsW cs c, s1, ?_, ?_, fun H' g => ?_⟩
    · rw [upd_same, e1]
      simp [flagsW]
    · unfold flagsW; rw [List.length_map]; exact hlw
    · refine q H' fun b o y => g b o ?_
      have ne : b ≠ p := fun w => by rw [w, hp] at y; cases y
      rw [upd_ne ne, upd_ne ne]
      exact y
  · simp only [Bool.and_eq_true, decide_eq_true_eq] at h
    obtain ⟨⟨h1, h2⟩, h3⟩ := h
    subst h1
    refine PSs.imp (pss_cons (ps_set nd (i := 1) (by rw [Z.hN]; rfl) (.inl (by rw [Z.hsc]; exact hfl)) (pe_lst (allW_ok Z he hi (ks := cs) (fun k hk => hk) h2)) rfl (.inl (Z.hfn _))) (endW_ok Z he hfl hi (by omega) h3)) fun E σ H ⟨e0, e4, q⟩ => ?_
    refine ⟨e4, by rw [List.length_map, sizeLine_eq]; omega, fun p hp => ?_⟩
    obtain ⟨s0, s1⟩ := hset (v := .ref p) e0 e4
    refine ⟨s0, p, flagsW cs c, s1, by rw [upd_same, mapb], by unfold flagsW; rw [List.length_map]; exact hlw, fun H' g => ?_⟩
    refine q H' fun b o y => g b o ?_
    rw [upd_ne fun w => by rw [w, hp] at y; cases y]
    exact y
  · cases h
theorem isVE_ok (Z : WordCx X cs sc c a D oe fl2) (he : sc.names.lookup ("e" : Str) = some .local) (hi : sc.names.lookup ("isinstance" : Str) = some .globalImplicit) {x : Expr} (h : isW sc "ValueError" x = true) :
    PE X x (fun σ H Q => σ[0]? = some (some (.ref a)) ∧ Q (.bl true) H) := by
  unfold isW at h
  split at h
  · simp only [Bool.and_eq_true, decide_eq_true_eq, glW, Bool.not_eq_true'] at h
    obtain ⟨⟨⟨h1, h2⟩, h3⟩, h4, h5⟩ := h
    subst h1 h2 h3
    have hT : ∀ p, PE X (.Name "ValueError" p) (tC (.ty "ValueError")) := fun p => pe_bltn (Z.gl h4) (Z.blt _ (by simp)) (by decide +kernel) rfl (by decide) h5
    exact PE.imp (pe_callB (call_isW Z.pin Z.exc Z.zc Z.fl) (Z.gl hi) (Z.blt _ (by simp)) boot_isinstance (pa_cons (Z.var he) (pa_cons (hT _) pa_nil rfl) rfl) (by decide) (by decide) rfl rfl) fun σ H Q ⟨e0, q⟩ => ⟨_, e0, .ty "ValueError", .type "ValueError", true, rfl, fun u r => r, Z.ve, q⟩
  · cases h
theorem truB_ok (Z : WordCx X cs sc c a D oe "others") {x : List Stmt} (h : truB sc cs x = true) :
    PSs X x (fun E σ H => σ.length = 2 ∧ σ[0]? = some (some (.ref a)) ∧ ∀ H', Grows H H' → E.rt (.bl (truW cs c)) H') := by
  unfold truB at h
  simp only [Bool.and_eq_true, decide_eq_true_eq] at h
  obtain ⟨⟨⟨⟨⟨he, hfl⟩, hi⟩, hany⟩, hl⟩, h⟩ := h
  have nd : X.N.Nodup := by rw [Z.hN]; decide
  split at h
  · rename_i k ks y yp es lp ap xa xb an anp y2 y2p cp np bp rp
    simp only [Bool.and_eq_true, decide_eq_true_eq] at h
    obtain ⟨⟨⟨⟨⟨h1, h2⟩, h3⟩, h4⟩, h5⟩, h6⟩ := h
    subst h1 h2 h3
    have vfl : ∀ p, PE X (.Name "others" p) (tVar 1) := fun p => pe_var (by rw [Z.hN]; rfl) (.inl (by rw [Z.hsc]; exact hfl)) (by decide) (by decide)
    refine PSs.imp (pss_cons (ps_set nd (i := 1) (by rw [Z.hN]; rfl) (.inl (by rw [Z.hsc]; exact hfl)) (pe_lst (allW_ok Z he hi (ks := ks) (fun k hk => List.mem_cons_of_mem _ hk) h4)) rfl (.inl (Z.hfn _)))
      (pss_one (ps_ret (pe_and (isW_ok Z he hi (k := k) List.mem_cons_self h5).1 (pe_and (isVE_ok Z he hi h6) (pe_one (pe_not (pe_callB (cr_anyHot Z.hot) (Z.gl hany) (Z.blt _ (by simp)) (bf_boot .any) (pa_cons (vfl _) pa_nil rfl) (bf_name .any) (bf_dbg .any) rfl rfl)))))))) fun E σ H ⟨e0, e4, q⟩ => ?_
    rw [List.length_cons] at hl
    refine ⟨e4, by rw [List.length_map, sizeLine_eq]; omega, fun p hp => ?_⟩
    have s0 : (σ.set 1 (some (V.ref p)))[0]? = some (some (.ref a)) := by rw [List.getElem?_set_ne (by decide)]; exact e4
    have s1 : (σ.set 1 (some (V.ref p)))[1]? = some (some (.ref p)) := by rw [List.getElem?_set_self (by omega)]
    have g : ∀ H', Grows (upd H p (.lst (ks.map fun k => V.bl (isSub c k)))) H' → Grows H H' := fun H' g b u y => g b u (by rw [upd_ne (fun w => by rw [w, hp] at y; cases y)]; exact y)
    have z := q _ (g _ fun _ _ y => y)
    have mapb : (ks.map fun k => V.bl (isSub c k)) = (flagsW ks c).map V.bl := by unfold flagsW; rw [List.map_map]; rfl
    refine ⟨s0, isSub c k, rfl, ?_⟩
    cases hk : isSub c k with
    | false =>
      rw [if_neg Bool.false_ne_true]
      have e : truW (k :: ks) c = false := by
        show (isSub c k && !((flagsW ks c).any id)) = false
        rw [hk, Bool.false_and]
      rw [e] at z
      exact z
    | true =>
      rw [if_pos rfl]
      refine ⟨s0, true, rfl, ?_⟩
      rw [if_pos rfl]
      refine ⟨_, s1, p, flagsW ks c, rfl, SqL.of (by rw [upd_same, mapb]), _, rfl, ?_⟩
      have e : truW (k :: ks) c = !((flagsW ks c).any id) := by
        show (isSub c k && !((flagsW ks c).any id)) = _
        rw [hk, Bool.true_and]
      rw [e] at z
      exact z
  · cases h
end
end
end Cw

set_option Elab.async false
set_option linter.all false
set_option maxRecDepth 100000
set_option maxHeartbeats 4000000
namespace Cw
open PySem PySem.Spec PyProof.Rows L2
section
variable {S : Option Bor} {me : Bool} {T : Nat → Option Def} {g : Gm} {ex : List Str} {ca : Str → Value} {n : Nat} {L : Lx} {X : Cx} {W : WX} {K : PySem.W.Frag} {He Ge G H : Hp} {σ : L2.St} {env : List Sl} {F : Nat → List D → R D}
theorem RSG.us_back {H1 : Hp} (h : RSG K S He Ge G σ H env) (s : Same H H1) {p : Addr} (u : Us S H1 σ env p) : Us S H σ env p := by
  rcases u with u | u | ⟨i, b, k, fs, q, u1, u2, u3⟩ | ⟨q, dx, k, u1, u2⟩
  · exact .inl u
  · exact .inr (.inl u)
  · obtain ⟨p2, dx, vs, a1, a2, _⟩ := h.b i b k fs u1
    rw [u2] at a1
    cases a1
    exact .inr (.inr (.inl ⟨i, b, k, fs, q, u1, u2, by rw [rg_eq (H := H) (by rw [a2]; exact s q _ a2)] at u3; exact u3⟩))
  · obtain ⟨_, ws, a2⟩ := h.s q dx k u1
    exact .inr (.inr (.inr ⟨q, dx, k, u1, by rw [rg_eq (H := H) (by rw [a2]; exact s q _ a2)] at u2; exact u2⟩))
theorem us_no {i : Nat} {o : Option V} {p : Addr} (u : Us S H (σ.set i o) (env.set i .no) p) : Us S H σ env p := by
  rcases u with ⟨j, es, u1, u2⟩ | ⟨j, es, u1, u2⟩ | ⟨j, b, k, fs, q, u1, u2, u3⟩ | u
  · obtain ⟨nz, u1⟩ := ow_set (by intro z; cases z) u1
    rw [List.getElem?_set_ne nz] at u2
    exact .inl ⟨j, es, u1, u2⟩
  · obtain ⟨nz, u1⟩ := ln_set (by intro z; cases z) u1
    rw [List.getElem?_set_ne nz] at u2
    exact .inr (.inl ⟨j, es, u1, u2⟩)
  · obtain ⟨nz, u1⟩ := ob_set (by intro z; cases z) u1
    rw [List.getElem?_set_ne nz] at u2
    exact .inr (.inr (.inl ⟨j, b, k, fs, q, u1, u2, u3⟩))
  · exact .inr (.inr (.inr u))
/-- what nobody has for himself changes -/
theorem RSG.upK {p : Addr} {o : HO} (h : RSG K S He Ge G σ H env) (nu : ¬ Us S H σ env p) (hG : G p = none) (hHe : He p = none) : RSG K S He Ge G σ (L2.upd H p o) env := by
  refine h.move ⟨fun b o z => by rw [upd_ne (ne_of_none z hHe)]; exact h.x.a b o z, h.x.b, fun b o z => by rw [upd_ne (ne_of_none z hG)]; exact h.x.c b o z, h.x.d⟩ (Same.refl _) fun p' u => ?_
  obtain ⟨_, u2, u3⟩ := h.us u
  exact ⟨upd_ne fun z => nu (by rw [← z]; exact u), u2, u3⟩
theorem evSs_one {s : Cw.S} : evSs F env (.cons s .nil) = evS F env s := by
  simp only [evSs]
  cases evS F env s <;> rfl
theorem zipA_lookup {β : Type} : ∀ {ks : List Str} {ds : List β} {ks2 : List Str} {ds2 : List β}, ds.length = ks.length → (ks ++ ks2).zip (ds ++ ds2) = ks.zip ds ++ ks2.zip ds2
  | [], [], _, _, _ => rfl
  | [], _ :: _, _, _, h => by cases h
  | _ :: _, [], _, _, h => by cases h
  | k :: ks, d :: ds, ks2, ds2, h => by
    show (k, d) :: (ks ++ ks2).zip (ds ++ ds2) = (k, d) :: (ks.zip ds ++ ks2.zip ds2)
    rw [zipA_lookup (by simpa using h)]
theorem keyK_app (a b : List Str) : keyK (a ++ b) = keyK a ++ keyK b := by unfold keyK; exact List.map_append
theorem keyK_len (a : List Str) : (keyK a).length = a.length := by unfold keyK; exact List.length_map ..
theorem s_dct3 {i : Nat} {ks ks2 : List Str} {es es2 : Es} {a : E} {keys keys2 : List (Option Expr)} {xs xs2 : List Expr} {xa : Expr} {y : Str} {py py2 py3 p1 p2 ap cp sp ep bp rp : Pos}
    (nd : X.N.Nodup) (t1 : X.N[i]? = some y) (t2 : L2.Loc X.env.scope y) (t3 : X.fn y = true ∨ X.env.scope.names.lookup y = some .local) (hu : X.A.units + 1 < cLine) (hv : ∀ p, PE X (.Name y p) (tVar i)) (hl : (ap.endLine == cp.line) = true)
    (D1 : Disp X ca W p1 keys xs ks fun env => evs F env es) (h0 : ks ≠ []) (h15 : ks.length ≤ 15) (D2 : Disp X ca W p2 keys2 xs2 ks2 fun env => evs F env es2) (k0 : ks2 ≠ []) (k15 : ks2.length ≤ 15) (ndk : (ks ++ ks2).Nodup)
    (l1 : ∀ env ds, evs F env es = .ok ds → ds.length = ks.length) (ha : PE X xa (rdE X.K ca W fun env => ev F env a)) (hs : NoSl xa) :
    PSs X [.Assign [.Name y py] (.Dict keys xs p1) sp, .Expr (.Call (.Attribute (.Name y py2) "update" ap) [.Dict keys2 xs2 p2] [] cp) ep, .Return (some (.Subscript (.Name y py3) xa bp)) rp] (rdS X.K ca W false fun env => evSs F env (.cons (.dct3 i ks es ks2 es2 a) .nil)) := by
  obtain ⟨trs1, hp1, rd1⟩ := D1.ex
  obtain ⟨trs2, hp2, rd2⟩ := D2.ex
  refine PSs.imp (pss_cons (ps_set nd t1 t2 (pe_disp hp1 D1.al (by rw [D1.l1, D1.l2]) (fun e => h0 (List.length_eq_zero_iff.mp (by rw [← D1.l1, e]; rfl))) (by rw [D1.l1]; exact h15)) (sw_false rfl) t3)
    (pss_cons (ps_expr (pe_bm PySem.F.plainAttrs_dict PySem.F.slot_dict_update PySem.F.type_dict_update mtd_update (hv py2) (pa_cons (pe_disp hp2 D2.al (by rw [D2.l1, D2.l2]) (fun e => k0 (List.length_eq_zero_iff.mp (by rw [← D2.l1, e]; rfl))) (by rw [D2.l1]; exact k15)) pa_nil rfl) rfl (few_one rfl) hl rfl rfl) rfl)
    (pss_one (ps_ret (pe_dget hu (hv py3) ha hs))))) fun Dn σ H ⟨S, He, Ge, G, env, me0, R0, ho⟩ => ?_
  cases S with
  | some z => cases me0
  | none =>
    dsimp only at ho
    rw [evSs_one] at ho
    simp only [evS] at ho
    split at ho
    case isFalse => exact ho.elim
    rename_i hi
    intro p hp
    have hHe : He p = none := by
      cases z : He p with
      | none => rfl
      | some o => rw [R0.x.a p o z] at hp; cases hp
    have RG := R0.grow (Same.upd (o := .dK []) hp)
    have nu0 : ∀ H1, Same H H1 → ¬ Us none H1 σ env p := fun H1 s u => by
      obtain ⟨⟨o, ho⟩, _⟩ := R0.us (R0.us_back s u)
      rw [hp] at ho; cases ho
    obtain ⟨Gf, f, eR⟩ := RG.frz
    refine rd1 σ _ _ env Gf f.t eR (RsA.frz f ?_)
    cases er : evs F env es with
    | exc c => rw [er] at ho; exact fun H' G' e => ho σ H' G' (RG.ext e)
    | bad => rw [er] at ho; exact ho
    | ok ds =>
      rw [er] at ho
      intro vs H2 G2 e pv
      have hlen : ds.length = ks.length := l1 env ds er
      have hvl : vs.length = ks.length := by rw [dpAll_len pv, hlen]
      have hG2 : G2 p = none := e.d p _ upd_same (R0.x.c.free hp)
      refine ⟨e.a p _ upd_same, (keyK ks).zip vs, zip_kV ks vs, by rw [List.length_zip, keyK_len]; omega, ?_⟩
      have nd1 : ks.Nodup := (List.nodup_append.mp ndk).1
      have em1 : mergeK [] ((keyK ks).zip vs) = (keyK ks).zip vs := by
        rw [merge_nd _ [] (by rw [List.nil_append]; exact (keyK_nd nd1).sublist (keys_zip ks vs)), List.nil_append]
      rw [em1]
      have sH2 : Same H H2 := (Same.upd (o := .dK []) hp).trans e.a
      have nuS : ∀ H1, Same H H1 → ¬ Us none H1 (σ.set i (some (V.ref p))) (env.set i .no) p := fun H1 s u => nu0 H1 s (us_no u)
      have sH3 : Same H (L2.upd H2 p (.dK ((keyK ks).zip vs))) := fun b o z => by rw [upd_ne (ne_of_none z hp)]; exact sH2 b o z
      have R2 : RSG X.K none He Ge G2 (σ.set i (some (.ref p))) (L2.upd H2 p (.dK ((keyK ks).zip vs))) (env.set i .no) := ((RG.ext e).upK (nu0 H2 sH2) hG2 hHe).unset
      have hiS : (σ.set i (some (V.ref p)))[i]? = some (some (.ref p)) := List.getElem?_set_self (by rw [R0.e.len]; exact hi)
      show tSeq (tDrop (tBM X.K "dict" rDUpd (tVar i) (tCons (tDisp trs2) tNil))) (tRet (tDGet (tVar i) (rdE X.K ca W fun env => ev F env a))) Dn (σ.set i (some (V.ref p))) (L2.upd H2 p (.dK ((keyK ks).zip vs)))
      generalize σ.set i (some (V.ref p)) = σ2 at R2 hiS nuS ⊢
      generalize hH3 : L2.upd H2 p (.dK ((keyK ks).zip vs)) = H3 at R2 sH3 ⊢
      have hp3 : H3 p = some (.dK ((keyK ks).zip vs)) := by rw [← hH3]; exact upd_same
      refine ⟨.ref p, hiS, .inr (.inr (.inl ⟨rfl, .inl ⟨_, hp3⟩⟩)), ?_⟩
      intro q hq
      have hHeq : He q = none := by
        cases z : He q with
        | none => rfl
        | some o => rw [R2.x.a q o z] at hq; cases hq
      have nqp : p ≠ q := ne_of_none hp3 hq
      have RH := R2.grow (Same.upd (o := .dK []) hq)
      obtain ⟨Gf2, f2, eR2⟩ := RH.frz
      refine rd2 σ2 _ _ (env.set i .no) Gf2 f2.t eR2 (RsA.frz f2 ?_)
      dsimp only [onR] at ho
      cases er2 : evs F (env.set i .no) es2 with
      | exc c => rw [er2] at ho; exact fun H' G' e => ho σ2 H' G' (RH.ext e)
      | bad => rw [er2] at ho; exact ho
      | ok ds2 =>
        rw [er2] at ho
        intro vs2 H4 G4 e2 pv2
        have hG4 : G4 q = none := e2.d q _ upd_same (R2.x.c.free hq)
        have hG4p : G4 p = none := e2.d p _ (by rw [upd_ne nqp]; exact hp3) hG2
        have h4p : H4 p = some (.dK ((keyK ks).zip vs)) := e2.a p _ (by rw [upd_ne nqp]; exact hp3)
        refine ⟨e2.a q _ upd_same, (keyK ks2).zip vs2, zip_kV ks2 vs2, by rw [List.length_zip, keyK_len]; omega, ?_⟩
        have nd2 : ks2.Nodup := (List.nodup_append.mp ndk).2.1
        have em2 : mergeK [] ((keyK ks2).zip vs2) = (keyK ks2).zip vs2 := by
          rw [merge_nd _ [] (by rw [List.nil_append]; exact (keyK_nd nd2).sublist (keys_zip ks2 vs2)), List.nil_append]
        rw [em2]
        have zl : (keyK ks).zip vs ++ (keyK ks2).zip vs2 = (keyK (ks ++ ks2)).zip (vs ++ vs2) := by
          rw [keyK_app]
          exact (List.zip_append (by rw [keyK_len, hvl])).symm
        have em3 : mergeK ((keyK ks).zip vs) ((keyK ks2).zip vs2) = (keyK (ks ++ ks2)).zip (vs ++ vs2) := by
          rw [← zl]
          exact merge_nd _ _ (by rw [zl]; exact (keyK_nd ndk).sublist (keys_zip _ _))
        refine ⟨p, q, (keyK ks).zip vs, (keyK ks2).zip vs2, rfl, rfl, nqp, by rw [upd_ne nqp]; exact h4p, upd_same, by rw [List.length_zip, List.length_zip, keyK_len, keyK_len, sizeLine_eq]; omega, ?_⟩
        rw [em3]
        have R4 : RSG X.K none He Ge G4 σ2 (L2.upd (L2.upd H4 q (.dK ((keyK ks2).zip vs2))) p (.dK ((keyK (ks ++ ks2)).zip (vs ++ vs2)))) (env.set i .no) :=
          by
          have s3 : Same H3 H4 := (Same.upd (o := .dK []) hq).trans e2.a
          have s4 : Same H (L2.upd H4 q (.dK ((keyK ks2).zip vs2))) := fun b o z => by rw [upd_ne (ne_of_none (sH3 b o z) hq)]; exact s3 b o (sH3 b o z)
          refine ((RH.ext e2).upK (fun u => ?_) hG4 hHeq).upK (nuS _ s4) hG4p hHe
          obtain ⟨⟨o, ho⟩, _⟩ := R2.us (R2.us_back s3 u)
          rw [hq] at ho; cases ho
        generalize hH5 : L2.upd (L2.upd H4 q (.dK ((keyK ks2).zip vs2))) p (.dK ((keyK (ks ++ ks2)).zip (vs ++ vs2))) = H5 at R4
        have hp5 : H5 p = some (.dK ((keyK (ks ++ ks2)).zip (vs ++ vs2))) := by rw [← hH5]; exact upd_same
        refine ⟨.ref p, hiS, R4.rd ?_⟩
        dsimp only [onR] at ho
        cases ea : ev F (env.set i .no) a with
        | exc c => rw [ea] at ho; exact fun H' G' e => ho σ2 H' G' (R4.ext e)
        | bad => rw [ea] at ho; exact ho
        | ok x =>
          rw [ea] at ho
          intro v H6 G6 e6 hx
          dsimp only at ho
          cases hx with
          | str z =>
            cases el : lkR (ks ++ ks2) (ds ++ ds2) (.str z) with
            | exc c => rw [el] at ho; exact ho.elim
            | bad => rw [el] at ho; exact ho.elim
            | ok d =>
              rw [el] at ho
              have el2 : ((ks ++ ks2).zip (ds ++ ds2)).lookup z = some d := by
                have y : ofO (((ks ++ ks2).zip (ds ++ ds2)).lookup z) = .ok d := el
                cases w : ((ks ++ ks2).zip (ds ++ ds2)).lookup z with
                | none => rw [w] at y; cases y
                | some d2 => rw [w] at y; cases y; rfl
              obtain ⟨v, w1, w2⟩ := val_zip (dpAll_app (dpAll_mono e2.b pv) pv2) el2
              have gg := DGet.k (k := Sum.inr z) (e6.a p _ hp5)
              rw [w1] at gg
              exact ⟨p, v, rfl, gg, ho v H6 G6 (R4.ext e6).x (dp_mono e6.b w2)⟩
          | non => exact ho.elim
          | bl _ => exact ho.elim
          | int _ => exact ho.elim
          | lst _ _ => exact ho.elim
          | tup _ _ => exact ho.elim
end
end Cw

set_option Elab.async false
set_option linter.all false
set_option maxRecDepth 100000
set_option maxHeartbeats 4000000
namespace Cw
open PySem PySem.Spec PyProof.Rows L2
theorem refsV_app : ∀ (a b : List V), refsV (a ++ b) = refsV a ++ refsV b
  | [], b => rfl
  | v :: a, b => by
    have ih := refsV_app a b
    cases v <;> simp only [List.cons_append, refsV, ih]
theorem refsV_mem {t : Addr} : ∀ {vs : List V} {j : Nat}, vs[j]? = some (.ref t) → t ∈ refsV vs
  | [], j, h => by cases j <;> cases h
  | v :: vs, 0, h => by
    cases h
    exact List.mem_cons_self
  | v :: vs, j + 1, h => by
    have ih := refsV_mem (vs := vs) (j := j) (by simpa using h)
    cases v <;> simp only [refsV] <;> first | exact ih | exact List.mem_cons_of_mem _ ih
theorem dk_app {K : PySem.W.Frag} {G H : Hp} {t : Addr} {kvs : List (Key × V)} {ps : List (D × D)} (h1 : H t = some (.dK kvs)) (h2 : KvR K G kvs ps) (h3 : kvs.length ≤ 1000000) : ∀ {vs : List V} {fs : List D}, DkAll K G H vs fs → DkAll K G H (vs ++ [.ref t]) (fs ++ [.dict ps])
  | _, _, .nil => .cons h1 h2 h3 .nil
  | _, _, .cons a b c r => .cons a b c (dk_app h1 h2 h3 r)
theorem dk_set {K : PySem.W.Frag} {G H : Hp} {t : Addr} {kvs : List (Key × V)} {ps : List (D × D)} (h2 : KvR K G kvs ps) (h3 : kvs.length ≤ 1000000) : ∀ {vs : List V} {fs : List D} {j : Nat}, DkAll K G H vs fs → (refsV vs).Nodup → vs[j]? = some (.ref t) → DkAll K G (upd H t (.dK kvs)) vs (fs.set j (.dict ps))
  | _, _, j, .nil, _, h => by cases j <;> cases h
  | _, _, 0, .cons a b c r, nd, h => by
    cases h
    rw [refsV, List.nodup_cons] at nd
    refine .cons upd_same h2 h3 (dk_move (Same.refl _) r fun t2 m o ho => ?_)
    rw [upd_ne fun z => nd.1 (by rw [← z]; exact m)]
    exact ho
  | _, _, j + 1, .cons a b c r, nd, h => by
    rw [refsV, List.nodup_cons] at nd
    have h' := by simpa using h
    refine .cons ?_ b c (dk_set h2 h3 r nd.2 h')
    rw [upd_ne fun z => nd.1 (by rw [z]; exact refsV_mem h')]
    exact a
section
variable {S : Option Bor} {me : Bool} {T : Nat → Option Def} {g : Gm} {ex : List Str} {ca : Str → Value} {n : Nat} {L : Lx} {X : Cx} {W : WX} {K : PySem.W.Frag} {He Ge G H : Hp} {σ : L2.St} {env : List Sl} {F : Nat → List D → R D}
theorem s_asgMT {l : List Nat} {m : M} {st : Stmt} (h : PS X st (tAsg (rdM X.K ca W fun env => evM F env m) (gT X.K (.many l)))) : PS X st (rdS X.K ca W me fun env => evS F env (.asgMT l m)) :=
  PS.imp h fun Dn σ H ⟨S, He, Ge, G, env, me0, R0, ho⟩ => by
    simp only [evS] at ho
    refine ⟨S, He, Ge, G, env, R0, on_okM ho fun d e v H1 G1 _ R1 p ho => ?_⟩
    cases q : setT e (.many l) d with
    | ok e2 =>
      rw [q] at ho
      exact gT_rs R1 p q fun σ2 R2 => ho _ _ _ R2
    | _ => rw [q] at ho; exact ho.elim
/-- self.f = {} -/
theorem s_fldE {i k j : Nat} {y f : Str} {py ap dp pos : Pos} (c : Cls X.K (clsA X.K k)) (na : NoAttr X.K (clsA X.K k) f) (hf : (clsF k)[j]? = some f) (hv : PE X (.Name y py) (tVar i)) :
    PS X (.Assign [.Attribute (.Name y py) f ap] (.Dict [] [] dp) pos) (rdS X.K ca W me fun env => evS F env (.fldE i k j)) :=
  PS.imp (ps_fld hv pe_dnewK rfl) fun Dn σ H ⟨S, He, Ge, G, env, me0, R0, ho⟩ => by
    simp only [evS] at ho
    unfold fldEO at ho
    split at ho
    · rename_i b k' fs q
      split at ho
      · rename_i hk
        obtain ⟨hk, nk, hj, he⟩ := hk
        subst hk
        obtain ⟨p0, dx, ws, c1, c2, c3, c4, c5, c6, c7⟩ := R0.b i b _ fs q
        obtain ⟨d1, d2, d3⟩ := c3.dk nk
        have hl := dk_len d1
        have l10 := clsF_len k'
        intro t ht
        have n0 : p0 ≠ t := ne_of_none c2 ht
        have h1 : upd H t (.dK []) p0 = some (insO X.K k' dx ws) := by rw [upd_ne n0]; exact c2
        refine ⟨.ref p0, c1, p0, _, dx, _, rfl, h1, c, na, by rw [List.length_zip]; omega, ?_⟩
        rw [putF_end (clsF_nd _) (by rw [hl, ← he]; exact hf)]
        have e0 := rg_dk c2 nk d3
        have e1 : rg (upd (upd H t (.dK [])) p0 (.ins (clsA X.K k') dx ((clsF k').zip (ws ++ [.ref t])))) k' p0 = rg H k' p0 ++ [t] := by
          have z := rg_dk (K := X.K) (H := upd (upd H t (.dK [])) p0 (.ins (clsA X.K k') dx ((clsF k').zip (ws ++ [.ref t])))) (k := k') (p := p0) (dx := dx) (vs := ws ++ [.ref t]) upd_same nk (by rw [List.length_append, hl]; simp only [List.length_cons, List.length_nil]; omega)
          rw [z, e0, refsV_app]; rfl
        have hne : ∀ r, r ∈ rg H k' p0 → r ≠ t := fun r hr => by
          obtain ⟨⟨o, ho⟩, _⟩ := rg_facts c2 c3 r hr
          exact ne_of_none ho ht
        refine ho _ _ _ (R0.obU (vs := ws) (ws := ws ++ [.ref t]) q c1 c2 ⟨fun b u z => ?_, Same.refl _, fun b u z => ?_, fun _ _ _ z => z⟩ upd_same ?_ ?_)
        · obtain ⟨n1, z⟩ := delL_some z
          have n2 : b ≠ t := ne_of_none z ht
          rw [e1, delL_ne fun w => by
            rcases List.mem_append.mp w with w | w
            · exact n1 w
            · exact n2 (List.mem_singleton.mp w), upd_ne fun w => n1 (by rw [w]; exact rg_self), upd_ne n2]
          exact z
        · have n1 : b ∉ rg H k' p0 := fun w => by rw [c5 b w] at z; cases z
          have n2 : b ≠ t := ne_of_none (R0.x.c b u z) ht
          rw [e1, delL_ne fun w => by
            rcases List.mem_append.mp w with w | w
            · exact n1 w
            · exact n2 (List.mem_singleton.mp w), upd_ne fun w => n1 (by rw [w]; exact rg_self), upd_ne n2]
          exact R0.x.c b u z
        · unfold FlR
          rw [if_pos nk]
          refine ⟨dk_app (kvs := []) ?_ .nil (Nat.zero_le _) (dk_move (Same.refl _) d1 fun r hr o ho => ?_), ?_, ?_⟩
          · rw [upd_ne (Ne.symm n0), upd_same]
          · obtain ⟨kvs, hk⟩ := dk_ref d1 r hr
            rw [upd_ne (fun w => by rw [w, c2] at hk; have z := Option.some.inj hk; unfold insO at z; cases z), upd_ne (ne_of_none ho ht)]
            exact ho
          · rw [refsV_app]
            refine List.nodup_append.mpr ⟨d2, by simp [refsV], fun r hr s hs w => ?_⟩
            have e : s = t := by simpa [refsV] using hs
            exact hne r (by rw [e0]; exact List.mem_cons_of_mem _ hr) (w.trans e)
          · rw [List.length_append, hl]; simp only [List.length_cons, List.length_nil]; omega
        · intro r hr
          rw [e1] at hr
          rcases List.mem_append.mp hr with w | w
          · exact c5 r w
          · rw [List.mem_singleton.mp w]; exact R0.x.c.free ht
      · exact ho.elim
    · exact ho.elim
/-- self.f[a] = m -/
theorem s_fldD {i k j : Nat} {a : E} {m : M} {y f : Str} {py ap sp pos : Pos} {xa val : Expr} (hu : X.A.units + 1 < cLine) (c : Cls X.K (clsA X.K k)) (na : NoAttr X.K (clsA X.K k) f) (hf : (clsF k)[j]? = some f) (hv : PE X (.Name y py) (tVar i)) (ha : PE X xa (rdE X.K ca W fun env => ev F env a)) (hm : PE X val (rdM X.K ca W fun env => evM F env m)) (hs : swapsWith val (some (.Subscript (.Attribute (.Name y py) f ap) xa sp)) pos.line X.env = pure false) :
    PS X (.Assign [.Subscript (.Attribute (.Name y py) f ap) xa sp] val pos) (rdS X.K ca W me fun env => evS F env (.fldD i k j a m)) :=
  PS.imp (ps_dput hu (pe_fld hv rfl) ha hm hs) fun Dn σ H ⟨S, He, Ge, G, env, me0, R0, ho⟩ => by
    simp only [evS] at ho
    refine ⟨S, He, Ge, G, env, R0, on_okM ho fun d e v H1 G1 _ R1 p ho => ?_⟩
    cases ek : attK e i k j with
    | exc c => exact (attK_not ek).elim
    | bad => rw [ek] at ho; exact ho.elim
    | ok dd =>
      rw [ek] at ho
      unfold attK at ek
      split at ek
      case h_2 => cases ek
      rename_i b k' fs q
      split at ek
      case isFalse => cases ek
      rename_i hk
      obtain ⟨hk, nk⟩ := hk
      subst hk
      obtain ⟨p0, dx, ws, c1, c2, c3, c4, c5, c6, c7⟩ := R1.b i b _ fs q
      obtain ⟨d1, d2, d3⟩ := c3.dk nk
      cases qd : fs[j]? with
      | none => rw [qd] at ek; cases ek
      | some d3' =>
        rw [qd] at ek
        cases ek
        obtain ⟨t, kvs, ps, b1, b2, b3, b4, b5⟩ := dk_get d1 qd
        subst b5
        refine ⟨.ref p0, c1, p0, _, dx, _, .ref t, rfl, c2, c, na, zip_lookup (clsF_nd _) hf b1, R1.rd ?_⟩
        have ho : OutS X.K ca W S He Ge Dn (onR e ((ev F e a).bind fun z => .ok (.tuple [.dict ps, z])) fun xz => fldDO i k' j d xz e) := ho
        cases ea : ev F e a with
        | exc c => rw [ea] at ho; exact fun H' G' x => ho σ H' G' (R1.ext x)
        | bad => rw [ea] at ho; exact ho
        | ok z =>
          rw [ea] at ho
          have ho : OutS X.K ca W S He Ge Dn (fldDO i k' j d (.tuple [.dict ps, z]) e) := ho
          intro u H2 G2 x2 pz
          unfold fldDO at ho
          rw [q] at ho
          dsimp only at ho
          cases pz with
          | str zz =>
            dsimp only at ho
            split at ho
            · rename_i hc
              obtain ⟨_, hj, hps⟩ := hc
              have R2 := R1.ext x2
              have t2 : H2 t = some (.dK kvs) := x2.a t _ b2
              have p2 : H2 p0 = some (insO X.K k' dx ws) := x2.a p0 _ c2
              have n0 : p0 ≠ t := fun w => by rw [w, t2] at p2; have z := Option.some.inj p2; unfold insO at z; cases z
              have hkl := kvR_len b3
              obtain ⟨p0', dx', ws', e1, e2, e3, e4, e5, _⟩ := R2.b i b _ fs q
              rw [c1] at e1
              cases e1
              have ew := e2.symm.trans p2
              have eR : rg (upd H2 t (.dK (putK kvs (Sum.inr zz) v))) k' p0 = rg H2 k' p0 := rg_eq (upd_ne n0)
              have tR : t ∈ rg H2 k' p0 := by
                rw [rg_dk p2 nk d3]
                exact List.mem_cons_of_mem _ (refsV_mem b1)
              refine ⟨t, _, rfl, DPut.k (k := Sum.inr zz) t2 (by rw [sizeLine_eq]; omega), ho _ _ _ (R2.obU (vs := ws) (ws := ws) q c1 p2 ⟨fun b u z => ?_, Same.refl _, fun b u z => ?_, fun _ _ _ z => z⟩ (by rw [upd_ne n0]; exact p2) ?_ ?_)⟩
              · obtain ⟨n1, z⟩ := delL_some z
                rw [eR, delL_ne n1, upd_ne fun w => n1 (by rw [w]; exact tR)]
                exact z
              · have n1 : b ∉ rg H2 k' p0 := fun w => by rw [e5 b w] at z; cases z
                rw [eR, delL_ne n1, upd_ne fun w => n1 (by rw [w]; exact tR)]
                exact R2.x.c b u z
              · unfold FlR
                rw [if_pos nk]
                refine ⟨dk_set (kvR_put (dp_mono x2.b p) (kvR_mono x2.b b3)) ?_ (dk_move x2.b d1 fun r _ o ho => x2.a r o ho) d2 b1, d2, d3⟩
                have := putK_len (kvs := kvs) (k := Sum.inr zz) (v := v)
                omega
              · intro r hr
                rw [eR] at hr
                exact e5 r hr
            · exact ho.elim
          | _ => exact ho.elim
theorem pe_makeSD0 {CX : CXT} {k : Nat} {C f : Addr} {fd : FuncData} {ps : List Str} {sp : Sp} {E : L2.St → XK} {x : Str} {p pos : Pos} (M : Mk X.K C f) (F : FnOk X.prog X.w X.K X.mg X.base CX k f fd ps sp) (hr : Room (k + 1) X.A) (hg : Gl X x) (hm : X.mg x = some (.ref C)) (hb : Binds X.K fd ps [])
    (hx : ∀ σ, PassesAt CX X σ (E σ)) (hdb : (x == ("__debug__" : Str)) = false) :
    PE X (.Call (.Name x p) [] [] pos) (tMakeSD C sp E tNil) := by
  refine ⟨fun pins s σ H Q I h => ?_⟩
  refine wpAny_Call_Name_kw (ld_glob I hg hm ?_ hdb)
  exact PySem.W.callWith_K0 (first := []) I.kIn M.kp (run_makeSD M F hr hb (hx σ) I .nil h)
theorem s_new0 {lv i k f : Nat} {f0 : Addr} {fd : FuncData} {ps : List Str} {y z : Str} {py zp cp pos : Pos} (nd : X.N.Nodup) (t1 : X.N[i]? = some y) (t2 : L2.Loc X.env.scope y) (t3 : X.fn y = true ∨ X.env.scope.names.lookup y = some .local) (M0 : Mk X.K (clsA X.K k) f0) (hb : Binds X.K fd ps [])
    (F0 : FnOk X.prog X.w X.K X.mg X.base (L2N.CX X.prog X.w) lv f0 fd ps (spM T ca X.K n f k)) (hr : Room (lv + 1) X.A) (hg : Gl X z) (hmg : X.mg z = some (.ref (clsA X.K k))) (hdb : (z == ("__debug__" : Str)) = false) (tk : L2N.Takes X W) :
    PS X (.Assign [.Name y py] (.Call (.Name z zp) [] [] cp) pos) (rdS X.K ca W me fun env => evS (evc T n) env (.new i k f .nil)) :=
  PS.imp (ps_set nd t1 t2 (pe_makeSD0 (E := WE W) M0 F0 hr hg hmg hb (fun σ => L2N.passAt tk σ) hdb) (sw_false rfl) t3) fun Dn σ H ⟨S, He, Ge, G, env, me0, R0, ho⟩ => by
    simp only [evS, evMs] at ho
    dsimp only [RM.bind] at ho
    refine make_rd R0 (ds := []) .nil (Q := fun x H2 => _) ?_
    unfold makeM at ho
    cases eo : metO (evc T n f (.tuple [] :: [])) with
    | bad => rw [eo] at ho; exact ho.elim
    | exc c => rw [eo] at ho; exact fun H2 G2 R2 => ho _ _ _ R2
    | ok r =>
      rw [eo] at ho
      obtain ⟨d, fs⟩ := r
      cases d with
      | none => exact fun x dx H2 G2 ws n1 e1 g1 g2 g3 => ho _ _ _ (R0.obN e1 n1 g1 g2 g3)
      | _ => exact ho.elim
end
end Cw

set_option Elab.async false
set_option linter.all false
set_option maxRecDepth 100000
set_option maxHeartbeats 4000000
namespace Cw
open PySem PySem.Spec PyProof.Rows L2

section
variable {T : Nat → Option Def} {g : Gm} {ex : List Str} {ca : Str → Value} {n : Nat}
theorem names_of {L : Lx} {X : Cx} (C : CxS T g ex ca n L X) {c : Str} (h1 : c ∈ ex) (h2 : glB L c = true) : Names X c (ca c) := by
  obtain ⟨A, e1, e2, _⟩ := C.rai c h1
  exact ⟨C.c.gl h2, glB_dbg h2, .inl (by rw [e1]; exact e2)⟩
def kv : D → V
  | .bool b => .bl b
  | .int b => .int b
  | .str b => .str b
  | _ => .non
theorem const_pe {X : Cx} {d : D} {x : Expr} (h : chkK d x = true) : PE X x (tC (kv d)) ∧ (∀ G, Dp X.K G (kv d) d) ∧ notComp x = true := by
  cases d with
  | none => cases x with
    | Constant c k p => cases c with
      | none => exact ⟨pe_non, fun _ => .non, rfl⟩
      | _ => cases h
    | _ => cases h
  | bool b => cases x with
    | Constant c k p => cases c with
      | bool c => have e : b = c := of_decide_eq_true h; subst e; exact ⟨pe_bl, fun _ => .bl _, rfl⟩
      | _ => cases h
    | _ => cases h
  | int b => cases x with
    | Constant c k p => cases c with
      | int c => have e : b = c := of_decide_eq_true h; subst e; exact ⟨pe_int, fun _ => .int _, rfl⟩
      | _ => cases h
    | _ => cases h
  | str b => cases x with
    | Constant c k p => cases c with
      | str c => have e : b = c := of_decide_eq_true h; subst e; exact ⟨pe_str, fun _ => .str _, rfl⟩
      | _ => cases h
    | _ => cases h
  | _ => cases x <;> cases h
theorem hds_ok {L : Lx} {X : Cx} (C : CxS T g ex ca n L X) : ∀ {hs : List (Str × Str)} {hds : List ExceptHandler}, hdsB ex L hs hds = true → L2N.HdsOk X hds (hs.map fun q => (ca q.1, fun _ _ _ => tRet (tC (.str q.2))))
  | [], [], _ => .nil
  | [], _ :: _, h => by cases h
  | _ :: _, [], h => by cases h
  | q :: hs, hd :: hds, h => by
    unfold hdsB at h
    rw [Bool.and_eq_true] at h
    obtain ⟨h, h5⟩ := h
    unfold hdB at h
    split at h
    · simp only [Bool.and_eq_true, decide_eq_true_eq] at h
      obtain ⟨⟨⟨h1, h2⟩, h3⟩, h4⟩ := h
      subst h1
      exact .cons (names_of C (List.contains_iff_mem.mp h2) h3) (fun a oe cls dd pn hz hf => pss_one (ps_ret (const_pe (X := X.suite a ((a, oe) :: pn)) h4).1)) (hds_ok C h5)
    · cases h
theorem hds_many {L : Lx} {X : Cx} {W : WX} (C : CxS T g ex ca n L X) {S : Option Bor} {He Ge G2 H2 : Hp} {σ2 : L2.St} {e1 : List Sl} {Dn : Ends} {c2 : Str} (nr : isRef c2 = false) : ∀ {hs : List (Str × Str)} {hds : List ExceptHandler}, hdsB ex L hs hds = true → RSG X.K S He Ge G2 σ2 H2 e1 →
    OutS X.K ca W S He Ge Dn (match hs.find? (fun h => isSub c2 h.1) with
      | some h => retO (.str h.2) e1
      | none => .exc c2 e1) → wMany X.K W Dn (hs.map fun q => (ca q.1, fun _ _ _ => tRet (tC (.str q.2)))) (ca c2) none σ2 H2
  | [], _, _, R2, ho => cast (BXE.no nr) (ho σ2 H2 G2 R2)
  | _ :: _, [], h, _, _ => by cases h
  | q :: hs, hd :: hds, h, R2, ho => by
    unfold hdsB at h
    rw [Bool.and_eq_true] at h
    obtain ⟨h, h5⟩ := h
    unfold hdB at h
    split at h
    · simp only [Bool.and_eq_true, decide_eq_true_eq] at h
      obtain ⟨⟨⟨h1, h2⟩, h3⟩, h4⟩ := h
      rw [List.find?_cons] at ho
      refine ⟨isSub c2 q.1, C.exm c2 nr q.1 (List.contains_iff_mem.mp h2), fun hb a ha => ?_, fun hb => ?_⟩
      · rw [hb] at ho
        exact ret_met ho R2 (.str _)
      · rw [hb] at ho
        exact hds_many C nr h5 R2 ho
    · cases h
mutual
theorem sndS : ∀ (s : S) {X : Cx} {L : Lx} {W : WX} {x : Stmt}, CxS T g ex ca n L X → L2N.Takes X W → chkS g ex s L x = true → PS X x (rdS X.K ca W L.me fun env => evS (evc T n) env s)
  | .asg i ms e, X, L, W, x, C, tk, h => by
    unfold chkS at h
    split at h
    · simp only [Bool.and_eq_true] at h
      exact s_asg (sndA C tk h.1.1 h.1.2 h.2).1
    · cases h
  | .asgL i ms e, X, L, W, x, C, tk, h => by
    unfold chkS at h
    split at h
    · simp only [Bool.and_eq_true] at h
      exact s_asgL h.2 ((sndA C tk h.1.1.1 h.1.1.2 h.1.2).2 h.2)
    · cases h
  | .asgT l ms e, X, L, W, x, C, tk, h => by
    unfold chkS at h
    split at h
    · rename_i ts k p val pos
      simp only [Bool.and_eq_true] at h
      obtain ⟨⟨⟨h1, h2⟩, h3⟩, h4⟩ := h
      refine s_asgT (ps_asg (sndE e C.c tk h4).1.pe (C.c.pg (t := .many l) (e := .Tuple ts k p) h1) (show swapsWith val (some (.Tuple ts k p)) pos.line X.env = pure false from sw_false h2) ?_ rfl)
      cases val <;> first | rfl | cases h3
    · cases h
  | .asgU l ms e, X, L, W, x, C, tk, h => by
    unfold chkS at h
    split at h
    · rename_i ts k p val pos
      simp only [Bool.and_eq_true] at h
      obtain ⟨⟨⟨h1, h2⟩, h3⟩, h4⟩ := h
      obtain ⟨a, b, c⟩ := C.c.pgs (l := l) (es := ts) h1
      refine s_asgU (ps_asg (sndE e C.c tk h4).1.pe (pg_unl C.c.calm a b c) (show swapsWith val (some (.Tuple ts k p)) pos.line X.env = pure false from sw_false h2) ?_ rfl)
      cases val <;> first | rfl | cases h3
    · cases h
  | .setX i ms a e, X, L, W, x, C, tk, h => by
    unfold chkS at h
    split at h
    · rename_i y py xa sp xe pos
      simp only [Bool.and_eq_true, decide_eq_true_eq] at h
      obtain ⟨⟨⟨⟨⟨⟨h1, h2⟩, h3⟩, h4⟩, h5⟩, h6⟩, h7⟩ := h
      have hv := h2
      unfold visB at hv
      rw [Bool.and_eq_true] at hv
      have dd := dbg_of hv.2
      refine s_setX (ps_asg (sndE e C.c tk h7).1.pe (pg_sub (pe_var (by rw [C.c.hN]; exact h1) (C.c.vis h2) dd.1 dd.2) (sndE a C.c tk h6).1.pe set_list (by intro v; cases xa <;> first | rfl | cases h3)) (show swapsWith xe (some (.Subscript (.Name y py) xa sp)) pos.line X.env = pure false from sw_false h4) ?_ rfl)
      cases xe <;> first | rfl | cases h5
    · cases h
  | .par i j ms a b, X, L, W, x, C, tk, h => by
    unfold chkS at h
    split at h
    · simp only [Bool.and_eq_true, decide_eq_true_eq, Bool.not_eq_true'] at h
      obtain ⟨⟨⟨⟨⟨⟨⟨⟨⟨⟨h1, h2⟩, h3⟩, h4⟩, h5⟩, h6⟩, h7⟩, h8⟩, h9⟩, h10⟩, h11⟩ := h
      unfold kindB at h4 h5
      rw [decide_eq_true_eq] at h4 h5
      obtain ⟨a1, a2⟩ := sndE a C.c tk h10
      obtain ⟨b1, b2⟩ := sndE b C.c tk h11
      refine s_par (ps_par C.c.calm C.c.nd (by rw [C.c.hN]; exact h1) (by rw [C.c.hN]; exact h2) h3 (by rw [C.c.hsc]; exact h4) (by rw [C.c.hsc]; exact h5) (pa_cons a1.pe (pa_cons b1.pe pa_nil (star_cons b2)) (star_cons a2)) ?_ rfl)
      exact swp_some C.kd (by rw [C.c.hsc]; exact h4) (by rw [C.c.hsc]; exact h5) h6 h7 a2 b2 h8 h9
    · cases h
  | .parL i j ms a b, X, L, W, x, C, tk, h => by
    unfold chkS at h
    split at h
    · simp only [Bool.and_eq_true, decide_eq_true_eq, Bool.not_eq_true'] at h
      obtain ⟨⟨⟨⟨⟨⟨⟨⟨⟨⟨⟨h1, h2⟩, h3⟩, h4⟩, h5⟩, h6⟩, h7⟩, h8⟩, h9⟩, h10⟩, h11⟩, h12⟩ := h
      unfold kindB at h4 h5
      rw [decide_eq_true_eq] at h4 h5
      obtain ⟨a1, a2⟩ := sndE a C.c tk h10
      obtain ⟨b1, b2⟩ := sndE b C.c tk h11
      refine s_parL h12 (ps_par C.c.calm C.c.nd (by rw [C.c.hN]; exact h1) (by rw [C.c.hN]; exact h2) h3 (by rw [C.c.hsc]; exact h4) (by rw [C.c.hsc]; exact h5) (pa_cons (sndL C.c tk h12 h10) (pa_cons b1.pe pa_nil (star_cons b2)) (star_cons a2)) ?_ rfl)
      exact swp_some C.kd (by rw [C.c.hsc]; exact h4) (by rw [C.c.hsc]; exact h5) h6 h7 a2 b2 h8 h9
    · cases h
  | .ret ms e, X, L, W, x, C, tk, h => by
    unfold chkS at h
    split at h
    · rw [Bool.and_eq_true, Bool.not_eq_true'] at h
      rw [h.1]
      exact s_ret (ps_ret (sndE e C.c tk h.2).1.pe)
    · cases h
  | .self k, X, L, W, x, C, tk, h => by
    unfold chkS at h
    cases h
  | .selfI k, X, L, W, x, C, tk, h => by
    unfold chkS at h
    cases h
  | .asgM i m, X, L, W, x, C, tk, h => by
    unfold chkS at h
    split at h
    · rw [Bool.and_eq_true, Bool.and_eq_true, Bool.or_eq_true] at h
      obtain ⟨⟨h1, h3⟩, h2⟩ := h
      obtain ⟨t1, t2, t3⟩ := C.c.tg h1
      rcases h2 with h2 | h2
      · exact s_asgM (ps_set C.c.nd t1 t2 (sndM m C.c tk h3).1.pe (sw_false h2) t3)
      · rw [Bool.and_eq_true] at h2
        obtain ⟨h2, hm⟩ := h2
        cases m with
        | lcm i2 m2 it =>
          have hP := (sndM (.lcm i2 m2 it) C.c tk h3).1.pe
          unfold chkM at h3
          split at h3
          · rename_i xe xt xi as scope p
            simp only [Bool.and_eq_true, decide_eq_true_eq] at h3
            obtain ⟨⟨⟨⟨⟨⟨hT, h0⟩, h1'⟩, h2'⟩, h4⟩, h5⟩, h7⟩ := h3
            subst h0
            obtain ⟨j1, j2⟩ := sndI (W := W) it C.c tk h5 (fun hm => by cases hm)
            obtain ⟨k1, k2⟩ := C.c.htop hT
            unfold swapB at h2
            rw [Bool.or_eq_true] at h2
            rcases h2 with h2 | h2
            · simp only [Bool.and_eq_true, Bool.not_eq_true'] at h2
              obtain ⟨l1, l2, l3⟩ := h2
              unfold kindB at l1
              rw [decide_eq_true_eq] at l1
              refine s_asgM (PS.imp (ps_setLcX (te := fun V => rdM X.K ca V fun env => evM (evc T n) env m2) C.c.calm C.c.nd t1 (by rw [C.c.hsc]; exact l1) (sw_true C.kd (by rw [C.c.hsc]; exact l1) l2 l3) tk k1 k2 j1 (by rw [C.c.hN, C.c.hsc]; exact blkOk_by h2') (fun s H Ca cl fp xe => (C.c.blkx (s := s) (H := H) (scope := scope) (cl := cl) (Ca := Ca) (fp := fp) (xe := xe)).pg h4) (fun _ _ _ _ _ _ => pts_nil) (fun V s H Ca cl fp xe tk => (sndM m2 (C.c.blkx (s := s) (H := H) (scope := scope) (cl := cl) (Ca := Ca) (fp := fp) (xe := xe)) tk h7).1.pe) j2) fun Dn σ H q => ?_)
              have q : rdM X.K ca W (fun env => evM (evc T n) env (.lcm i2 m2 it)) σ H (fun x H1 => gName i x σ H1 Dn.nx) := q
              simp only [evM] at q
              rw [h1']
              exact lcm_read q
            · refine s_asgM (ps_set C.c.nd t1 t2 hP (sw_cell ?_) t3)
              unfold kindB at h2
              rw [C.c.hsc]
              simpa using h2
          · cases h3
        | _ => cases hm
    · cases h
  | .retM m, X, L, W, x, C, tk, h => by
    unfold chkS at h
    split at h
    · rw [Bool.and_eq_true] at h
      exact s_retM (ps_ret (sndM m C.c tk h.2).1.pe)
    · cases h
  | .retP m, X, L, W, x, C, tk, h => by
    unfold chkS at h
    split at h
    · rw [Bool.and_eq_true, Bool.not_eq_true'] at h
      rw [h.1]
      exact s_retP (ps_ret (sndM m C.c tk h.2).1.pe)
    · cases h
  | .iffM m a b, X, L, W, x, C, tk, h => by
    unfold chkS at h
    split at h
    · simp only [Bool.and_eq_true] at h
      exact s_iffM (sndM m C.c tk h.1.1).1.pt (sndSs a C tk h.1.2) (sndSs b C tk h.2)
    · cases h
  | .whlM m b, X, L, W, x, C, tk, h => by
    unfold chkS at h
    split at h
    · simp only [Bool.and_eq_true] at h
      exact s_whlM C.po (sndM m C.c tk h.1).1.pt (sndSs b C tk h.2)
    · cases h
  | .exprM m, X, L, W, x, C, tk, h => by
    unfold chkS at h
    split at h
    · simp only [Bool.and_eq_true] at h
      exact s_exprM (ps_expr (sndM m C.c tk h.2).1.pe (sw_false h.1))
    · cases h
  | .fld i k j m, X, L, W, x, C, tk, h => by
    unfold chkS at h
    split at h
    · rename_i y py f ap val pos
      simp only [Bool.and_eq_true, decide_eq_true_eq, Bool.not_eq_true'] at h
      obtain ⟨⟨⟨⟨⟨h1, h2⟩, h3⟩, h4⟩, h6⟩, hk⟩ := h
      have hv := h2
      unfold visB at hv
      rw [Bool.and_eq_true] at hv
      have dd := dbg_of hv.2
      have Z := C.c.clss k (List.contains_iff_mem.mp h3)
      exact s_fld hk Z.cls (Z.noat f (List.mem_of_getElem? h4)) h4 (pe_var (by rw [C.c.hN]; exact h1) (C.c.vis h2) dd.1 dd.2) (sndM m C.c tk h6).1.pe sw_attr
    · cases h
  | .new i k f ms, X, L, W, x, C, tk, h => by
    unfold chkS at h
    split at h
    · rename_i y py z zp cp pos
      simp only [Bool.and_eq_true, decide_eq_true_eq] at h
      obtain ⟨⟨⟨⟨⟨h1, h2⟩, h3⟩, h4⟩, h5⟩, h6⟩ := h
      subst h2
      split at h6
      · obtain ⟨t1, t2, t3⟩ := C.c.tg h1
        have Z := C.c.clss k (List.contains_iff_mem.mp h4)
        obtain ⟨f0, fd, ps, m1, m2, m3⟩ := C.c.inis k f (List.contains_iff_mem.mp h5)
        exact s_new0 C.c.nd t1 t2 t3 m1 m2 m3 C.c.room (C.c.gl h3) Z.mg (glB_dbg h3) tk
      · cases h6
    · rename_i y py z zp xe xs cp pos
      simp only [Bool.and_eq_true, decide_eq_true_eq] at h
      obtain ⟨⟨⟨⟨⟨h1, h2⟩, h3⟩, h4⟩, h5⟩, h6⟩ := h
      subst h2
      obtain ⟨t1, t2, t3⟩ := C.c.tg h1
      have Z := C.c.clss k (List.contains_iff_mem.mp h4)
      obtain ⟨f0, fd, ps, m1, m2, m3⟩ := C.c.inis k f (List.contains_iff_mem.mp h5)
      obtain ⟨a1, a2⟩ := sndMs ms C.c tk h6
      exact s_new C.c.nd t1 t2 t3 m1 m2 m3 C.c.room (C.c.gl h3) Z.mg (glB_dbg h3) tk a1 a2
    · cases h
  | .iff ms c a b, X, L, W, x, C, tk, h => by
    unfold chkS at h
    split at h
    · simp only [Bool.and_eq_true] at h
      exact s_iff (sndE c C.c tk h.1.1).1.pt (sndSs a C tk h.1.2) (sndSs b C tk h.2)
    · cases h
  | .whl ms c b, X, L, W, x, C, tk, h => by
    unfold chkS at h
    split at h
    · simp only [Bool.and_eq_true] at h
      exact s_whl C.po (sndE c C.c tk h.1).1.pt (sndSs b C tk h.2)
    · cases h
  | .for_ ms t it b, X, L, W, x, C, tk, h => by
    unfold chkS at h
    split at h
    · rename_i xt xi xb pos
      simp only [Bool.and_eq_true] at h
      obtain ⟨⟨h1, h2⟩, h3⟩ := h
      obtain ⟨i1, i2⟩ := sndI it C.c tk h2 (xt := xt) (fun hm => by
        cases t with
        | one i => cases hm
        | many l => cases xt with
          | Tuple es k p => exact ⟨_, _, _, rfl⟩
          | _ => cases h1)
      exact s_for C.c.calm C.po i1 i2 (C.c.pg h1) (sndSs b C tk h3)
    · cases h
  | .app i ms e, X, L, W, x, C, tk, h => by
    unfold chkS at h
    split at h
    · simp only [Bool.and_eq_true, decide_eq_true_eq, Bool.not_eq_true'] at h
      obtain ⟨⟨⟨⟨⟨h1, h2⟩, h3⟩, h4⟩, h5⟩, h6⟩ := h
      subst h1
      have hv := h4
      unfold visB at hv
      rw [Bool.and_eq_true] at hv
      have dd := dbg_of hv.2
      obtain ⟨a1, a2⟩ := sndE e C.c tk h6
      exact s_app (pe_var (by rw [C.c.hN]; exact h3) (C.c.vis h4) dd.1 dd.2) h2 (fun z => by rw [List.contains_iff_mem.mpr z] at h5; cases h5) a2 a1.pe
    · cases h
  | .ext i ms e, X, L, W, x, C, tk, h => by
    unfold chkS at h
    split at h
    · simp only [Bool.and_eq_true, decide_eq_true_eq, Bool.not_eq_true'] at h
      obtain ⟨⟨⟨⟨⟨⟨h1, h2⟩, h3⟩, h4⟩, h5⟩, h6⟩, h7⟩ := h
      subst h1
      have hv := h4
      unfold visB at hv
      rw [Bool.and_eq_true] at hv
      have dd := dbg_of hv.2
      have hl : isLst e = true := by cases e <;> first | rfl | cases h6
      obtain ⟨a1, a2⟩ := sndE e C.c tk h7
      exact s_ext hl (pe_var (by rw [C.c.hN]; exact h3) (C.c.vis h4) dd.1 dd.2) h2 (fun z => by rw [List.contains_iff_mem.mpr z] at h5; cases h5) a2 (sndL C.c tk hl h7)
    · cases h
  | .setC i a b, X, L, W, x, C, tk, h => by
    unfold chkS at h
    split at h
    · simp only [Bool.and_eq_true, decide_eq_true_eq] at h
      obtain ⟨⟨⟨⟨h1, h2⟩, h3⟩, h4⟩, h5⟩ := h
      subst h2
      subst h4
      subst h5
      have hv := h3
      unfold visB at hv
      rw [Bool.and_eq_true] at hv
      have dd := dbg_of hv.2
      exact s_setC fun p => pe_var (by rw [C.c.hN]; exact h1) (C.c.vis h3) dd.1 dd.2
    · cases h
  | .popT l i, X, L, W, x, C, tk, h => by
    unfold chkS at h
    split at h
    · rename_i ts k p y py at_ ap cp pos
      simp only [Bool.and_eq_true, decide_eq_true_eq] at h
      obtain ⟨⟨⟨⟨h1, h2⟩, h3⟩, h4⟩, h5⟩ := h
      subst h1
      have hv := h4
      unfold visB at hv
      rw [Bool.and_eq_true] at hv
      have dd := dbg_of hv.2
      exact s_popT (pe_var (by rw [C.c.hN]; exact h3) (C.c.vis h4) dd.1 dd.2) h2 (C.c.pg (t := .many l) (e := .Tuple ts k p) h5)
    · cases h
  | .rais c, X, L, W, x, C, tk, h => by
    unfold chkS at h
    split at h
    · simp only [Bool.and_eq_true, decide_eq_true_eq, Bool.not_eq_true'] at h
      obtain ⟨⟨⟨h1, h2⟩, h3⟩, nr⟩ := h
      subst h1
      obtain ⟨A, e1, e2, e3, e4, e5⟩ := C.rai _ (List.contains_iff_mem.mp h2)
      refine PS.imp (L2N.ps_raise C.c.calm tk (L2N.pmk_own PySem.F.excBase_ValueError e3 e2 e4 e5 (C.c.gl h3) (glB_dbg h3))) fun Dn σ H ⟨S, He, Ge, G, env, me0, R0, ho⟩ => ?_
      simp only [evS] at ho
      have z := cast (BXE.no nr) (ho σ H G R0)
      rw [e1] at z
      exact z
    · cases h
  | .tryN b c i d, X, L, W, x, C, tk, h => by
    unfold chkS at h
    split at h
    · simp only [Bool.and_eq_true, decide_eq_true_eq] at h
      obtain ⟨⟨⟨⟨⟨h1, h2⟩, h3⟩, h4⟩, h5⟩, h6⟩ := h
      subst h1
      have hc := List.contains_iff_mem.mp h2
      obtain ⟨t1, t2, t3⟩ := C.c.tg h5
      obtain ⟨hv, hd, hn⟩ := const_pe (X := X) h6
      refine PS.imp (L2N.ps_try_many (tb := fun W' => rdS X.K ca W' L.me fun env => evSs (evc T n) env b) (Wout := W) C.hs C.hf tk (fun W' pn xe tk' po => sndSs b (C.tr po) tk' h4) (.cons (c := ca _) (ts := fun _ _ _ => tAsg (tC (kv d)) (gName i)) (names_of C hc h3) (fun a oe cls dd pn hz hf => ?_) .nil)) fun Dn σ H ⟨S, He, Ge, G, env, me0, R0, ho⟩ => ?_
      · exact pss_one (ps_set C.c.nd t1 t2 (const_pe (X := X.suite a ((a, oe) :: pn)) h6).1 (sw_false hn) t3)
      · simp only [evS] at ho
        refine ⟨S, He, Ge, G, env, me0, R0, ?_⟩
        show OutS X.K ca _ S He Ge Dn (evSs (evc T n) env b)
        cases eb : evSs (evc T n) env b with
        | next e1 => rw [eb] at ho; exact ho
        | ret x => rw [eb] at ho; exact ho
        | brk e1 => rw [eb] at ho; exact ho
        | cont e1 => rw [eb] at ho; exact ho
        | bad => rw [eb] at ho; exact ho
        | exc c2 e1 =>
          rw [eb] at ho
          dsimp only at ho
          cases nr : isRef c2 with
          | true => rw [nr, if_pos rfl] at ho; exact ho.elim
          | false =>
          rw [nr, if_neg Bool.false_ne_true] at ho
          intro σ2 H2 G2 R2
          refine cast (BXE.no nr).symm ?_
          refine ⟨_, C.exm c2 nr _ hc, fun hb => ?_, fun hb => ?_⟩
          · rw [if_pos hb] at ho
            intro a _
            exact ho _ _ _ (R2.set (hd G2))
          · rw [if_neg (by rw [hb]; exact Bool.false_ne_true)] at ho
            exact cast (BXE.no nr) (ho _ _ _ R2)
    · cases h
  | .tryW b i k, X, L, W, x, C, tk, h => by
    unfold chkS at h
    split at h
    · rename_i xb y yp en f fp e2 ep cp rp hp tp
      simp only [Bool.and_eq_true, decide_eq_true_eq] at h
      obtain ⟨⟨⟨⟨⟨⟨⟨⟨⟨⟨h0, h1⟩, h2⟩, h3⟩, h4⟩, h5⟩, h6⟩, h7⟩, h8⟩, h9⟩, h10⟩ := h
      rw [Bool.not_eq_true'] at h10
      rw [Bool.not_eq_true'] at h0
      subst h1 h4
      have hw := List.contains_iff_mem.mp h8
      obtain ⟨fa, fd, ps, m1, m2, m3, FW⟩ := C.wrd _ _ hw
      obtain ⟨Cc, c1, cl2⟩ := C.clo (fun z => by rw [z] at hw; cases hw)
      have hv := h7
      unfold visB at hv
      rw [Bool.and_eq_true] at hv
      have dd := dbg_of hv.2
      unfold kindB at h6
      rw [decide_eq_true_eq] at h6
      refine PS.imp (L2N.ps_try_as (c := .ref Cc) (tb := fun W' => rdS X.K ca W' L.me fun env => evSs (evc T n) env b) (ts := fun a cls d D σ H => ∃ (c2 : Str) (σ0 : L2.St), cls = ca c2 ∧ d = none ∧ σ = σ0.set i (some (.ref a)) ∧ ∀ H', Grows H H' → D.rt (wordV k c2) H') (Wout := W) C.hs C.hf C.c.nd (by rw [C.c.hN]; exact h5) (show X.env.scope.names.lookup _ = _ by rw [C.c.hsc]; exact h6) ⟨C.c.gl h2, glB_dbg h2, .inl c1⟩ tk (fun W' pn xe tk' po => sndSs b (C.tr po) tk' h3) (fun a oe cls d pn hz hf => ?_)) fun Dn σ H ⟨S, He, Ge, G, env, me0, R0, ho⟩ => ?_
      · obtain ⟨vs, hvs⟩ := hf
        have hr : L2H.RoomH 30 (X.suite a ((a, oe) :: pn)).A := L2H.RoomH.mono (k := n + 46) ⟨C.c.room.dp, C.c.room.un⟩ (by omega)
        refine ⟨fun pins s σ H D I ⟨c2, σ0, ec, ed, e0, q⟩ => (pss_one (ps_ret (pe_callW (X := X.suite a ((a, oe) :: pn)) (E := fun _ _ _ => False) FW hr (q := (a, oe)) ⟨rfl, vs, hvs, hz.2.2 vs hvs⟩ List.mem_cons_self (C.c.gl h9) m1 m2 m3 (fun σ => fun pins H s e s' I x => ?_) (pa_cons (pe_var (i := i) (by rw [C.c.hN]; exact h5) (C.c.vis h7) dd.1 dd.2) pa_nil rfl) (glB_dbg h9) rfl))).run pins s σ H D I ?_⟩
        · obtain ⟨_, _, _, _, _, _, _, _, _, _, _, _, z⟩ := x
          exact z.elim
        · have hl : i < σ.length := by
            have z := I.len
            have z2 : i < L.N.length := (List.getElem?_eq_some_iff.mp h5).1
            rw [z]
            show i < X.N.length
            rw [C.c.hN]
            exact z2
          have e1 : σ[i]? = some (some (.ref a)) := by
            rw [e0] at hl ⊢
            rw [List.length_set] at hl
            exact List.getElem?_set_self hl
          refine ⟨.ref a, e1, c2, rfl, ?_, ⟨vs, hvs⟩, q⟩
          rw [← ec, ← ed]
          exact hz
      · simp only [evS] at ho
        refine ⟨S, He, Ge, G, env, me0, R0, ?_⟩
        show OutS X.K ca _ S He Ge Dn (evSs (evc T n) env b)
        cases eb : evSs (evc T n) env b with
        | next e1 => rw [eb] at ho; exact ho
        | ret x => rw [eb] at ho; exact ho
        | brk e1 => rw [eb] at ho; exact ho
        | cont e1 => rw [eb] at ho; exact ho
        | bad => rw [eb] at ho; exact ho
        | exc c2 e1 =>
          rw [eb] at ho
          dsimp only at ho
          cases nr : isRef c2 with
          | true => rw [nr, if_pos rfl] at ho; exact ho.elim
          | false =>
          rw [nr, if_neg Bool.false_ne_true] at ho
          intro σ2 H2 G2 R2
          refine cast (BXE.no nr).symm ?_
          refine ⟨true, cl2 c2 nr, fun _ a _ => ⟨c2, σ2, rfl, rfl, rfl, fun H' g => ?_⟩, fun hb => by cases hb⟩
          rw [h0] at me0
          cases S with
          | some z => cases me0
          | none =>
            rw [wordV_str h10]
            exact ho (.str _) H' G2 ⟨fun p o y => g p o (R2.x.a p o y), R2.x.b, fun p o y => g p o (R2.x.c p o y), R2.x.d⟩ (.str _)
    · cases h
  | .tryT b i k o w, X, L, W, x, C, tk, h => by
    unfold chkS at h
    split at h
    · rename_i xb y yp en o2 ok op w2 wk wp lp ni nip f fp e2 ep cp icp sp rp hp tp
      simp only [Bool.and_eq_true, decide_eq_true_eq] at h
      obtain ⟨⟨⟨⟨⟨⟨⟨⟨⟨⟨⟨⟨⟨⟨h0, h1⟩, h2⟩, h3⟩, h4⟩, h5⟩, h6⟩, h7⟩, h8⟩, h9⟩, h10⟩, h11⟩, h12⟩, h13⟩, h14⟩ := h
      rw [Bool.not_eq_true'] at h0
      subst h1 h4 h11 h12 h13
      have hw := List.contains_iff_mem.mp h8
      obtain ⟨fa, fd, ps, m1, m2, m3, FW⟩ := C.wrd _ _ hw
      obtain ⟨Cc, c1, cl2⟩ := C.clo (fun z => by rw [z] at hw; cases hw)
      have hv := h7
      unfold visB at hv
      rw [Bool.and_eq_true] at hv
      have dd := dbg_of hv.2
      unfold kindB at h6
      rw [decide_eq_true_eq] at h6
      refine PS.imp (L2N.ps_try_as (c := .ref Cc) (tb := fun W' => rdS X.K ca W' L.me fun env => evSs (evc T n) env b) (ts := fun a cls d D σ H => ∃ (c2 : Str) (σ0 : L2.St), cls = ca c2 ∧ d = none ∧ σ = σ0.set i (some (.ref a)) ∧ ∀ H', Grows H H' → D.rt (.str (if truW (wtab k) c2 = true then w2 else o2)) H') (Wout := W) C.hs C.hf C.c.nd (by rw [C.c.hN]; exact h5) (show X.env.scope.names.lookup _ = _ by rw [C.c.hsc]; exact h6) ⟨C.c.gl h2, glB_dbg h2, .inl c1⟩ tk (fun W' pn xe tk' po => sndSs b (C.tr po) tk' h3) (fun a oe cls d pn hz hf => ?_)) fun Dn σ H ⟨S, He, Ge, G, env, me0, R0, ho⟩ => ?_
      · obtain ⟨vs, hvs⟩ := hf
        have hr : L2H.RoomH 30 (X.suite a ((a, oe) :: pn)).A := L2H.RoomH.mono (k := n + 46) ⟨C.c.room.dp, C.c.room.un⟩ (by omega)
        refine ⟨fun pins s σ H D I ⟨c2, σ0, ec, ed, e0, q⟩ => (pss_one (ps_ret (pe_ix ix_list (pe_lst (pa_cons pe_str (pa_cons pe_str pa_nil rfl) rfl)) (pe_callTy (X := X.suite a ((a, oe) :: pn)) call_int1 (C.c.gl h14) (C.c.blt _ (by simp [blts])) (bf_boot .int) (pa_cons (pe_callW (X := X.suite a ((a, oe) :: pn)) (E := fun _ _ _ => False) FW hr (q := (a, oe)) ⟨rfl, vs, hvs, hz.2.2 vs hvs⟩ List.mem_cons_self (C.c.gl h9) m1 m2 m3 (fun σ => fun pins H s e s' I x => ?_) (pa_cons (pe_var (i := i) (by rw [C.c.hN]; exact h5) (C.c.vis h7) dd.1 dd.2) pa_nil rfl) (glB_dbg h9) rfl) pa_nil rfl) (bf_name .int) (bf_dbg .int) rfl rfl) (plainIx_of rfl)))).run pins s σ H D I ?_⟩
        · obtain ⟨_, _, _, _, _, _, _, _, _, _, _, _, z⟩ := x
          exact z.elim
        · have hl : i < σ.length := by
            have z := I.len
            have z2 : i < L.N.length := (List.getElem?_eq_some_iff.mp h5).1
            rw [z]
            show i < X.N.length
            rw [C.c.hN]
            exact z2
          have e1 : σ[i]? = some (some (.ref a)) := by
            rw [e0] at hl ⊢
            rw [List.length_set] at hl
            exact List.getElem?_set_self hl
          refine ⟨by rw [sizeLine_eq]; show 2 ≤ 16777216; decide, fun r hr => ?_⟩
          refine ⟨.ref a, e1, c2, rfl, ?_, ⟨vs, hvs⟩, fun H' g => ?_⟩
          · rw [← ec, ← ed]
            exact hz
          · have g0 : Grows H H' := fun b u y => g b u (by rw [upd_ne (fun z => by rw [z, hr] at y; cases y)]; exact y)
            have hl : H' r = some (.lst [.str o2, .str w2]) := g r _ upd_same
            rw [wordV_tr h10]
            refine .inr ⟨_, rfl, r, _, _, _, rfl, rfl, SqL.of hl, ?_, q H' g0⟩
            cases truW (wtab k) c2 <;> rfl
      · simp only [evS] at ho
        refine ⟨S, He, Ge, G, env, me0, R0, ?_⟩
        show OutS X.K ca _ S He Ge Dn (evSs (evc T n) env b)
        cases eb : evSs (evc T n) env b with
        | next e1 => rw [eb] at ho; exact ho
        | ret x => rw [eb] at ho; exact ho
        | brk e1 => rw [eb] at ho; exact ho
        | cont e1 => rw [eb] at ho; exact ho
        | bad => rw [eb] at ho; exact ho
        | exc c2 e1 =>
          rw [eb] at ho
          dsimp only at ho
          cases nr : isRef c2 with
          | true => rw [nr, if_pos rfl] at ho; exact ho.elim
          | false =>
          rw [nr, if_neg Bool.false_ne_true] at ho
          intro σ2 H2 G2 R2
          refine cast (BXE.no nr).symm ?_
          refine ⟨true, cl2 c2 nr, fun _ a _ => ⟨c2, σ2, rfl, rfl, rfl, fun H' g => ?_⟩, fun hb => by cases hb⟩
          rw [h0] at me0
          cases S with
          | some z => cases me0
          | none => exact ho (.str _) H' G2 ⟨fun p o y => g p o (R2.x.a p o y), R2.x.b, fun p o y => g p o (R2.x.c p o y), R2.x.d⟩ (.str _)
    · cases h
  | .tryA b i k j, X, L, W, x, C, tk, h => by
    unfold chkS at h
    split at h
    · rename_i xb y yp en l lp at_ ap f fp e2 ep wp cp sp hp tp
      simp only [Bool.and_eq_true, decide_eq_true_eq] at h
      obtain ⟨⟨⟨⟨⟨⟨⟨⟨⟨⟨⟨⟨⟨⟨h1, h2⟩, h3⟩, h4⟩, h5⟩, h6⟩, h7⟩, h8⟩, h9⟩, k1⟩, k2⟩, k3⟩, k4⟩, k5⟩, k6⟩ := h
      rw [Bool.not_eq_true'] at k6
      subst h1 h4 k1
      have hw := List.contains_iff_mem.mp h8
      obtain ⟨fa, fd, ps, m1, m2, m3, FW⟩ := C.wrd _ _ hw
      obtain ⟨Cc, c1, cl2⟩ := C.clo (fun z => by rw [z] at hw; cases hw)
      have hv := h7
      unfold visB at hv
      rw [Bool.and_eq_true] at hv
      have dd := dbg_of hv.2
      have hv4 := k4
      unfold visB at hv4
      rw [Bool.and_eq_true] at hv4
      have dd4 := dbg_of hv4.2
      unfold kindB at h6
      rw [decide_eq_true_eq] at h6
      refine PS.imp (L2N.ps_try_as (c := .ref Cc) (tb := fun W' => rdS X.K ca W' L.me fun env => evSs (evc T n) env b) (ts := fun a cls d D σ H => ∃ (c2 : Str) (σ0 : L2.St) (p : Addr) (vs : List V), cls = ca c2 ∧ d = none ∧ σ = σ0.set i (some (.ref a)) ∧ σ0[j]? = some (some (.ref p)) ∧ H p = some (.lst vs) ∧ vs.length < sizeLine ∧ ∀ H', Grows H H' → D.nx σ (upd H' p (.lst (vs ++ [wordV k c2])))) (Wout := W) C.hs C.hf C.c.nd (by rw [C.c.hN]; exact h5) (show X.env.scope.names.lookup _ = _ by rw [C.c.hsc]; exact h6) ⟨C.c.gl h2, glB_dbg h2, .inl c1⟩ tk (fun W' pn xe tk' po => sndSs b (C.tr po) tk' h3) (fun a oe cls d pn hz hf => ?_)) fun Dn σ H ⟨S, He, Ge, G, env, me0, R0, ho⟩ => ?_
      · obtain ⟨vs, hvs⟩ := hf
        have hr : L2H.RoomH 30 (X.suite a ((a, oe) :: pn)).A := L2H.RoomH.mono (k := n + 46) ⟨C.c.room.dp, C.c.room.un⟩ (by omega)
        have pw := pe_callW (X := X.suite a ((a, oe) :: pn)) (E := fun _ _ _ => False) (pos := wp) (np := fp) FW hr (q := (a, oe)) ⟨rfl, vs, hvs, hz.2.2 vs hvs⟩ List.mem_cons_self (C.c.gl h9) m1 m2 m3 (fun σ => fun pins H s e s' I x => by
          obtain ⟨_, _, _, _, _, _, _, _, _, _, _, _, z⟩ := x
          exact z.elim) (pa_cons (pe_var (pos := ep) (i := i) (by rw [C.c.hN]; exact h5) (C.c.vis h7) dd.1 dd.2) pa_nil rfl) (glB_dbg h9) rfl
        refine ⟨fun pins s σ H D I ⟨c2, σ0, p, ws, ec, ed, e0, e3, e4, e5, q⟩ => (pss_one (ps_expr (pe_bm (X := X.suite a ((a, oe) :: pn)) PySem.F.plainAttrs_list PySem.F.slot_list_append PySem.F.type_list_append mt_append (pe_var (pos := lp) (i := j) (by rw [C.c.hN]; exact k3) (C.c.vis k4) dd4.1 dd4.2) (pa_cons pw pa_nil rfl) rfl (few_one rfl) k2 rfl rfl) rfl)).run pins s σ H D I ?_⟩
        have hl : i < σ.length := by
          have z := I.len
          have z2 : i < L.N.length := (List.getElem?_eq_some_iff.mp h5).1
          rw [z]
          show i < X.N.length
          rw [C.c.hN]
          exact z2
        have e1 : σ[i]? = some (some (.ref a)) := by
          rw [e0] at hl ⊢
          rw [List.length_set] at hl
          exact List.getElem?_set_self hl
        have e6 : σ[j]? = some (some (.ref p)) := by
          rw [e0, List.getElem?_set_ne k5]
          exact e3
        refine ⟨.ref p, e6, .inl ⟨rfl, _, SqL.of e4⟩, .ref a, e1, c2, rfl, ?_, ⟨vs, hvs⟩, fun H' g => ⟨p, ws, _, rfl, rfl, g p _ e4, e5, q H' g⟩⟩
        rw [← ec, ← ed]
        exact hz
      · simp only [evS] at ho
        refine ⟨S, He, Ge, G, env, me0, R0, ?_⟩
        show OutS X.K ca _ S He Ge Dn (evSs (evc T n) env b)
        cases eb : evSs (evc T n) env b with
        | next e1 => rw [eb] at ho; exact ho
        | ret x => rw [eb] at ho; exact ho
        | brk e1 => rw [eb] at ho; exact ho
        | cont e1 => rw [eb] at ho; exact ho
        | bad => rw [eb] at ho; exact ho
        | exc c2 e1 =>
          rw [eb] at ho
          dsimp only at ho
          cases nr : isRef c2 with
          | true => rw [nr, if_pos rfl] at ho; exact ho.elim
          | false =>
          rw [nr, if_neg Bool.false_ne_true] at ho
          cases qj : e1[j]? with
          | none => rw [qj] at ho; exact ho.elim
          | some z =>
            rw [qj] at ho
            cases z with
            | ow ds =>
              dsimp only at ho
              split at ho
              · rename_i hz
                intro σ2 H2 G2 R2
                refine cast (BXE.no nr).symm ?_
                obtain ⟨p, vs, a1, a2, a3, a4, a5, a6⟩ := R2.o j ds qj
                refine ⟨true, cl2 c2 nr, fun _ a _ => ⟨c2, σ2, p, vs, rfl, rfl, rfl, a1, a2, by rw [dpAll_len a3]; exact hz, fun H' g => ?_⟩, fun hb => by cases hb⟩
                have R3 := ((R2.grow (H1 := H') g).unset (i := i) (o := none))
                have R4 := R3.upd (i := j) (p := p) (vs := vs) (ws := vs ++ [.str (wordT k c2)]) (ds := ds) (es := ds ++ [.str (wordT k c2)]) (by rw [List.getElem?_set_ne k5]; exact qj) (by rw [List.getElem?_set_ne k5]; exact a1) (g p _ a2) (dpAll_app a3 (.cons (.str _) .nil))
                have e : (σ2.set i (some (V.ref a))).set i none = σ2.set i none := List.set_set ..
                show Dn.nx ((σ2.set i (some (V.ref a))).set i none) _
                rw [e, wordV_str k6]
                exact ho _ _ _ R4
              · exact ho.elim
            | _ => exact ho.elim
    · cases h
  | .expr ms e, X, L, W, x, C, tk, h => by
    unfold chkS at h
    split at h
    · simp only [Bool.and_eq_true] at h
      exact s_expr (ps_expr (sndE e C.c tk h.2).1.pe (sw_false h.1))
    · cases h
  | .tryR b c d, X, L, W, x, C, tk, h => by
    unfold chkS at h
    split at h
    · simp only [Bool.and_eq_true, decide_eq_true_eq, Bool.not_eq_true'] at h
      obtain ⟨⟨⟨⟨⟨h0, h1⟩, h2⟩, h3⟩, h4⟩, h6⟩ := h
      subst h1
      have hc := List.contains_iff_mem.mp h2
      obtain ⟨hv, hd, hn⟩ := const_pe (X := X) h6
      refine PS.imp (L2N.ps_try_many (tb := fun W' => rdS X.K ca W' L.me fun env => evSs (evc T n) env b) (Wout := W) C.hs C.hf tk (fun W' pn xe tk' po => sndSs b (C.tr po) tk' h4) (.cons (c := ca _) (ts := fun _ _ _ => tRet (tC (kv d))) (names_of C hc h3) (fun a oe cls dd pn hz hf => ?_) .nil)) fun Dn σ H ⟨S, He, Ge, G, env, me0, R0, ho⟩ => ?_
      · exact pss_one (ps_ret (const_pe (X := X.suite a ((a, oe) :: pn)) h6).1)
      · simp only [evS] at ho
        rw [h0] at me0
        refine ⟨S, He, Ge, G, env, by rw [h0]; exact me0, R0, ?_⟩
        cases S with
        | some z => cases me0
        | none =>
          show OutS X.K ca _ none He Ge Dn (evSs (evc T n) env b)
          cases eb : evSs (evc T n) env b with
          | next e1 => rw [eb] at ho; exact ho
          | ret x => rw [eb] at ho; exact ho
          | brk e1 => rw [eb] at ho; exact ho
          | cont e1 => rw [eb] at ho; exact ho
          | bad => rw [eb] at ho; exact ho
          | exc c2 e1 =>
            rw [eb] at ho
            dsimp only at ho
            cases nr : isRef c2 with
            | true => rw [nr, if_pos rfl] at ho; exact ho.elim
            | false =>
            rw [nr, if_neg Bool.false_ne_true] at ho
            intro σ2 H2 G2 R2
            refine cast (BXE.no nr).symm ?_
            refine ⟨_, C.exm c2 nr _ hc, fun hb => ?_, fun hb => ?_⟩
            · rw [if_pos hb] at ho
              intro a _
              exact ho _ _ _ R2.x (hd G2)
            · rw [if_neg (by rw [hb]; exact Bool.false_ne_true)] at ho
              exact cast (BXE.no nr) (ho _ _ _ R2)
    · cases h
  | .selfL i, X, L, W, x, C, tk, h => by
    unfold chkS at h
    cases h
  | .appL i e, X, L, W, x, C, tk, h => by
    unfold chkS at h
    split at h
    · simp only [Bool.and_eq_true, decide_eq_true_eq] at h
      obtain ⟨⟨⟨⟨h1, h2⟩, h3⟩, h4⟩, h6⟩ := h
      subst h1
      have hv := h4
      unfold visB at hv
      rw [Bool.and_eq_true] at hv
      have dd := dbg_of hv.2
      obtain ⟨a1, a2⟩ := sndE e C.c tk h6
      exact s_appL (pe_var (by rw [C.c.hN]; exact h3) (C.c.vis h4) dd.1 dd.2) h2 a2 a1.pe
    · cases h
  | .retL i e, X, L, W, x, C, tk, h => by
    unfold chkS at h
    split at h
    · rw [Bool.and_eq_true] at h
      exact s_retL (ps_ret (sndE e C.c tk h.2).1.pe)
    · cases h
  | .retLM i m, X, L, W, x, C, tk, h => by
    unfold chkS at h
    split at h
    · rw [Bool.and_eq_true] at h
      exact s_retLM (ps_ret (sndM m C.c tk h.2).1.pe)
    · cases h
  | .fldE i k j, X, L, W, x, C, tk, h => by
    unfold chkS at h
    split at h
    · rename_i y py f ap dp pos
      simp only [Bool.and_eq_true, decide_eq_true_eq] at h
      obtain ⟨⟨⟨h1, h2⟩, h3⟩, h4⟩ := h
      have hv := h2
      unfold visB at hv
      rw [Bool.and_eq_true] at hv
      have dd := dbg_of hv.2
      have Z := C.c.clss k (List.contains_iff_mem.mp h3)
      exact s_fldE Z.cls (Z.noat f (List.mem_of_getElem? h4)) h4 (pe_var (by rw [C.c.hN]; exact h1) (C.c.vis h2) dd.1 dd.2)
    · cases h
  | .fldD i k j a m, X, L, W, x, C, tk, h => by
    unfold chkS at h
    split at h
    · rename_i y py f ap xa sp val pos
      simp only [Bool.and_eq_true, decide_eq_true_eq] at h
      obtain ⟨⟨⟨⟨⟨h1, h2⟩, h3⟩, h4⟩, h5⟩, h6⟩ := h
      have hv := h2
      unfold visB at hv
      rw [Bool.and_eq_true] at hv
      have dd := dbg_of hv.2
      have Z := C.c.clss k (List.contains_iff_mem.mp h3)
      exact s_fldD (by have := C.c.un; omega) Z.cls (Z.noat f (List.mem_of_getElem? h4)) h4 (pe_var (by rw [C.c.hN]; exact h1) (C.c.vis h2) dd.1 dd.2) (sndE a C.c tk h5).1.pe (sndM m C.c tk h6).1.pe (by cases val <;> rfl)
    · cases h
  | .asgMT l m, X, L, W, x, C, tk, h => by
    unfold chkS at h
    split at h
    · rename_i ts k p val pos
      simp only [Bool.and_eq_true] at h
      obtain ⟨⟨⟨h1, h2⟩, h3⟩, h4⟩ := h
      refine s_asgMT (ps_asg (sndM m C.c tk h4).1.pe (C.c.pg (t := .many l) (e := .Tuple ts k p) h1) (show swapsWith val (some (.Tuple ts k p)) pos.line X.env = pure false from sw_false h2) ?_ rfl)
      cases val <;> first | rfl | cases h3
    · cases h
  | .raisW i, X, L, W, x, C, tk, h => by
    unfold chkS at h
    split at h
    · simp only [Bool.and_eq_true, decide_eq_true_eq] at h
      obtain ⟨⟨⟨⟨h0, h1⟩, h2⟩, h3⟩, h4⟩ := h
      subst h1
      have hv := h4
      unfold visB at hv
      rw [Bool.and_eq_true] at hv
      have dd := dbg_of hv.2
      obtain ⟨Cc, fI, fd, ps, R⟩ := C.rfd h0
      refine PS.imp (L2N.ps_raise C.c.calm tk (L2N.pmk_oexN R.k.T R.k.iC R.k.tI R.F (C.c.room.mono (by omega)) R.b (C.c.gl h2) R.k.mg (pa_cons (pe_var (i := i) (by rw [C.c.hN]; exact h3) (C.c.vis h4) dd.1 dd.2) pa_nil rfl) (glB_dbg h2) (star_cons rfl) rfl)) fun Dn σ H ⟨S, He, Ge, G, env, me0, R0, ho⟩ => ?_
      simp only [evS] at ho
      split at ho
      · rename_i w q
        obtain ⟨v, hv1, hv2⟩ := R0.e.get i _ q
        cases hv2
        have z := cast (BXE.yes (isRef_c w)) (ho σ H G R0)
        refine ⟨_, hv1, by simp, fun a ha => ⟨a, w, rfl, upd_same, fun dx h1 h2 => ⟨rfl, dx, _, upd_same, by rw [upd_ne h2, upd_same], ?_, ?_⟩⟩⟩
        · rw [upd_ne h2] at h1; exact h1
        · have hd : H dx = none := by rw [upd_ne h2] at h1; exact h1
          have y := z dx hd
          rw [R.k.caR _ (isRef_c w), refW_c] at y
          refine cast ?_ y
          congr 1
          funext b
          by_cases c1 : b = dx
          · subst c1; rw [upd_same, upd_same]
          · rw [upd_ne c1, upd_ne c1]
            by_cases c2 : b = a
            · subst c2; rw [L2.del_same]; exact ha
            · rw [L2.del_ne c2, upd_ne c2, upd_ne c1, upd_ne c2]
      · exact ho.elim
    · cases h
  | .tryD b pre hs i, X, L, W, x, C, tk, h => by
    unfold chkS at h
    split at h
    · rename_i xb y yp en p2 pk pp e2 e2p f fp bp rp hp hds z zp zrp pos
      simp only [Bool.and_eq_true, decide_eq_true_eq] at h
      obtain ⟨⟨⟨⟨⟨⟨⟨⟨⟨⟨⟨⟨⟨h0, h1⟩, h2⟩, h3⟩, h4⟩, h5⟩, h6⟩, h7⟩, h8⟩, h9⟩, h10⟩, h11⟩, h12⟩, h13⟩ := h
      subst h2 h5 h9 h10
      have hv := h8
      unfold visB at hv
      rw [Bool.and_eq_true] at hv
      have dd := dbg_of hv.2
      have hv2 := h12
      unfold visB at hv2
      rw [Bool.and_eq_true] at hv2
      have dd2 := dbg_of hv2.2
      unfold kindB at h7
      rw [decide_eq_true_eq] at h7
      obtain ⟨ie, hie⟩ := List.mem_iff_getElem?.mp (List.contains_iff_mem.mp h6)
      obtain ⟨Cc, fI, fd, ps, R⟩ := C.rfd h0
      refine PS.imp (L2N.ps_try_asMany (c := .ref Cc) (i := ie) (tb := fun W' => rdS X.K ca W' L.me fun env => evSs (evc T n) env b) (Wout := W) (l := hs.map fun q => (ca q.1, fun _ _ _ => tRet (tC (.str q.2)))) (pss_one (ps_ret (pe_var (i := i) (by rw [C.c.hN]; exact h11) (C.c.vis h12) dd2.1 dd2.2))) C.hs C.hf C.c.nd (by rw [C.c.hN]; exact hie) (show X.env.scope.names.lookup _ = _ by rw [C.c.hsc]; exact h7) ⟨C.c.gl h3, glB_dbg h3, .inl R.k.mg⟩ tk (fun W' pn xe tk' po => sndSs b (C.tr po) tk' h4)
        (ts := fun a cls d D σ H => ∃ (σ0 : L2.St) (dx : Addr) (w : Str), σ = σ0.set ie (some (.ref a)) ∧ cls = .ref Cc ∧ d = some dx ∧ H dx = some (.xd [("word", .str w)]) ∧ p2.length + w.length ≤ sizeLine ∧ D.rt (.str (p2 ++ w)) H)
        (fun a oe cls d pn hz hf => ⟨fun pins s σ H D I ⟨σ0, dx, w, e0, q1, q2, q3, q4, q5⟩ => (pss_one (ps_ret (pe_op op_add_str (const_pe (X := X.suite a ((a, oe) :: pn)) (d := .str p2) (x := .Constant (.str p2) pk pp) (by unfold chkK; exact decide_eq_true rfl)).1 (pe_xf R.k.xf R.k.no hz.zc hf (pe_var (i := ie) (by rw [C.c.hN]; exact hie) (C.c.vis h8) dd.1 dd.2) rfl)))).run pins s σ H D I (by
          have hl : ie < σ0.length := by
            have z := I.len
            have z2 : ie < L.N.length := (List.getElem?_eq_some_iff.mp hie).1
            rw [e0, List.length_set] at z
            rw [z]
            show ie < X.N.length
            rw [C.c.hN]
            exact z2
          exact ⟨.ref a, by rw [e0]; exact List.getElem?_set_self hl, rfl, q1, dx, _, .str w, q2, q3, rfl, _, _, rfl, rfl, q4, q5⟩)⟩) (hds_ok C h13)) fun Dn σ H ⟨S, He, Ge, G, env, me0, R0, ho⟩ => ?_
      simp only [evS] at ho
      refine ⟨S, He, Ge, G, env, me0, R0, ?_⟩
      show OutS X.K ca _ S He Ge _ (evSs (evc T n) env b)
      cases eb : evSs (evc T n) env b with
      | next e1 =>
        rw [eb] at ho
        dsimp only at ho
        intro σ2 H2 G2 R2
        split at ho
        · rename_i d q
          obtain ⟨v, v1, v2⟩ := R2.e.get i _ q
          exact ⟨v, v1, ret_met ho R2 v2⟩
        · exact ho.elim
      | ret x => rw [eb] at ho; exact ho.elim
      | brk e1 => rw [eb] at ho; exact ho.elim
      | cont e1 => rw [eb] at ho; exact ho.elim
      | bad => rw [eb] at ho; exact ho
      | exc c2 e1 =>
        rw [eb] at ho
        dsimp only at ho
        intro σ2 H2 G2 R2
        cases nr : isRef c2 with
        | true =>
          rw [nr, if_pos rfl] at ho
          split at ho
          · rename_i hz
            refine cast (BXE.yes nr).symm ?_
            intro dx hdx
            refine ⟨true, by rw [R.k.caR _ nr]; exact R.k.e1, fun _ a ha => ?_, fun hb => by cases hb⟩
            exact ⟨σ2, dx, refW c2, rfl, R.k.caR _ nr, rfl, upd_same, hz, (by
              have z := ret_met ho (R2.grow (Same.upd (o := .xd [("word", .str (refW c2))]) hdx)) (.str _)
              exact z)⟩
          · exact ho.elim
        | false =>
          rw [nr, if_neg Bool.false_ne_true] at ho
          refine cast (BXE.no nr).symm ?_
          refine ⟨false, R.k.e2 _ nr, (fun hb => by cases hb), fun _ => ?_⟩
          exact hds_many C nr h13 R2 ho
    · cases h
  | .keep ini k b, X, L, W, x, C, tk, h => by
    unfold chkS at h
    cases h
  | .dct3 i ks es ks2 es2 a, X, L, W, x, C, tk, h => by
    unfold chkS at h
    cases h
  | .brk, X, L, W, x, C, tk, h => by
    unfold chkS at h
    split at h
    · exact PS.imp ps_break fun Dn σ H ⟨S, He, Ge, G, env, me0, R0, ho⟩ => by
        simp only [evS] at ho
        exact ho _ _ _ R0
    · cases h
  | .cont, X, L, W, x, C, tk, h => by
    unfold chkS at h
    split at h
    · exact PS.imp ps_continue fun Dn σ H ⟨S, He, Ge, G, env, me0, R0, ho⟩ => by
        simp only [evS] at ho
        exact ho _ _ _ R0
    · cases h
  | .pass, X, L, W, x, C, tk, h => by
    unfold chkS at h
    split at h
    · exact PS.imp ps_pass fun Dn σ H ⟨S, He, Ge, G, env, me0, R0, ho⟩ => by
        simp only [evS] at ho
        exact ho _ _ _ R0
    · cases h
theorem sndSs : ∀ (s : Ss) {X : Cx} {L : Lx} {W : WX} {x : List Stmt}, CxS T g ex ca n L X → L2N.Takes X W → chkSs g ex s L x = true → PSs X x (rdS X.K ca W L.me fun env => evSs (evc T n) env s)
  | .nil, X, L, W, x, C, tk, h => by
    unfold chkSs at h
    cases x with
    | nil =>
      exact PSs.imp pss_nil fun Dn σ H ⟨S, He, Ge, G, env, me0, R0, ho⟩ => by
        simp only [evSs] at ho
        exact ho _ _ _ R0
    | cons _ _ => cases h
  | .cons s ss, X, L, W, x, C, tk, h => by
    unfold chkSs at h
    cases x with
    | nil => cases h
    | cons x xs =>
      dsimp only at h
      rw [Bool.or_eq_true] at h
      rcases h with h | h3
      case inr =>
        unfold chk3 at h3
        split at h3
        · rename_i heq heq2
          cases heq
          cases heq2
          simp only [Bool.and_eq_true, decide_eq_true_eq, Bool.not_eq_true'] at h3
          obtain ⟨⟨⟨⟨⟨⟨⟨⟨⟨⟨⟨⟨⟨⟨⟨⟨⟨⟨⟨a1, a2⟩, a3⟩, a4⟩, a5⟩, a6⟩, a7⟩, a8⟩, b1⟩, b2⟩, b3⟩, b4⟩, b5⟩, c1⟩, c2⟩, c3⟩, c4⟩, c5⟩, d1⟩, d2⟩ := h3
          subst a3 a4 a6
          rw [a1]
          obtain ⟨t1, t2, t3⟩ := C.c.tg a2
          have hv := a5
          unfold visB at hv
          rw [Bool.and_eq_true] at hv
          have dd := dbg_of hv.2
          exact s_dct3 C.c.nd t1 t2 t3 (by have := C.c.un; omega) (fun p => pe_var (pos := p) t1 (C.c.vis a5) dd.1 dd.2) a7 (sndDs _ _ C.c tk b5 b1 b4) (fun e => by rw [e] at b2; cases b2) b3 (sndDs _ _ C.c tk c5 c1 c4) (fun e => by rw [e] at c2; cases c2) c3 d1
            (fun env ds e => by rw [evs_len b5 e, b4]) (sndE _ C.c tk d2).1.pe (plainIx_of a8)
        · cases h3
      rw [Bool.and_eq_true] at h
      refine PSs.imp (pss_cons (sndS s C tk h.1) (sndSs ss C tk h.2)) fun Dn σ H ⟨S, He, Ge, G, env, me0, R0, ho⟩ => ?_
      simp only [evSs] at ho
      refine ⟨S, He, Ge, G, env, me0, R0, ?_⟩
      show OutS X.K ca W S He Ge _ (evS (evc T n) env s)
      cases es : evS (evc T n) env s with
      | next e1 => rw [es] at ho; exact fun σ2 H2 G2 R2 => ⟨S, He, Ge, G2, e1, me0, R2, ho⟩
      | ret x => rw [es] at ho; exact ho
      | brk e1 => rw [es] at ho; exact ho
      | cont e1 => rw [es] at ho; exact ho
      | exc c2 e1 => rw [es] at ho; exact ho
      | bad => rw [es] at ho; exact ho
end
/-- a method's body -/
def rdSM (K : PySem.W.Frag) (ca : Str → Value) (W : WX) (r : List Sl → Out) : TS := fun D σ H => (∀ σ H, D.rt .non H → D.nx σ H) ∧ rdS K ca W true r D σ H
theorem sndSsM : ∀ (s : Ss) {X : Cx} {L : Lx} {W : WX} {x : List Stmt}, L.me = true → CxS T g ex ca n L X → L2N.Takes X W → chkSsM g ex s L x = true → PSs X x (rdSM X.K ca W fun env => evSs (evc T n) env s)
  | .nil, X, L, W, x, hL, C, tk, h => by
    unfold chkSsM at h
    cases x with
    | nil =>
      exact PSs.imp pss_nil fun Dn σ H ⟨hD, S, He, Ge, G, env, me0, R0, ho⟩ => by
        simp only [evSs] at ho
        exact ho _ _ _ R0
    | cons _ _ => cases h
  | .cons s ss, X, L, W, x, hL, C, tk, h => by
    unfold chkSsM at h
    cases x with
    | nil =>
      dsimp only at h
      unfold isEnd at h
      split at h
      · rename_i heq
        cases heq
        exact PSs.imp pss_nil fun Dn σ H ⟨hD, S, He, Ge, G, env, me0, R0, ho⟩ => by
          have e1 : evSs (evc T n) env (.cons (.retM (.e (.k .none))) .nil) = retO .none env := by
            simp only [evSs, evS, evM, ev, liftM, onM]
            generalize retO .none env = o
            cases o <;> rfl
          dsimp only at ho
          rw [e1] at ho
          exact hD σ H (ret_met ho R0 .non)
      · cases h
    | cons x xs =>
      dsimp only at h
      rw [Bool.and_eq_true] at h
      have hs := sndS s C tk h.1
      rw [hL] at hs
      refine PSs.imp (pss_cons hs (sndSsM ss hL C tk h.2)) fun Dn σ H ⟨hD, S, He, Ge, G, env, me0, R0, ho⟩ => ?_
      simp only [evSs] at ho
      refine ⟨S, He, Ge, G, env, me0, R0, ?_⟩
      show OutS X.K ca W S He Ge _ (evS (evc T n) env s)
      cases es : evS (evc T n) env s with
      | next e1 => rw [es] at ho; exact fun σ2 H2 G2 R2 => ⟨hD, S, He, Ge, G2, e1, me0, R2, ho⟩
      | ret x => rw [es] at ho; exact ho
      | brk e1 => rw [es] at ho; exact ho
      | cont e1 => rw [es] at ho; exact ho
      | exc c2 e1 => rw [es] at ho; exact ho
      | bad => rw [es] at ho; exact ho
end
end Cw

set_option Elab.async false
set_option linter.all false
set_option maxRecDepth 100000
set_option maxHeartbeats 4000000
namespace Cw
open PySem PySem.Spec PyProof.Rows L2

theorem lookup_zip {β : Type} : ∀ {l : List Str} {us : List β}, l.Nodup → us.length = l.length → l.filterMap (fun n => ((l.zip us).lookup n).map fun v => (n, v)) = l.zip us
  | [], us, _, h => by cases us <;> first | rfl | cases h
  | a :: l, [], _, h => by cases h
  | a :: l, u :: us, nd, h => by
    rw [List.nodup_cons] at nd
    have h2 : us.length = l.length := by simpa using h
    have ih := lookup_zip (us := us) nd.2 h2
    rw [List.zip_cons_cons, List.filterMap_cons]
    have e1 : List.lookup a ((a, u) :: l.zip us) = some u := by simp [List.lookup]
    rw [e1]
    dsimp only [Option.map_some]
    congr 1
    have e : ∀ n ∈ l, ((List.lookup n ((a, u) :: l.zip us)).map fun v => (n, v)) = ((l.zip us).lookup n).map fun v => (n, v) := fun n hn => by
      have z : (n == a) = false := by
        cases q : (n == a) with
        | false => rfl
        | true => rw [eq_of_beq q] at hn; exact (nd.1 hn).elim
      simp [List.lookup, z]
    have cg : ∀ (m : List Str) (f g : Str → Option (Str × β)), (∀ n ∈ m, f n = g n) → m.filterMap f = m.filterMap g := by
      intro m f g
      induction m with
      | nil => intro _; rfl
      | cons b m ih2 =>
        intro hh
        rw [List.filterMap_cons, List.filterMap_cons, hh b List.mem_cons_self, ih2 fun n hn => hh n (List.mem_cons_of_mem _ hn)]
    exact (cg l _ _ e).trans ih
theorem lookup_some {β : Type} : ∀ {l : List Str} {us : List β} {n : Str}, us.length = l.length → n ∈ l → ((l.zip us).lookup n).isNone = false
  | [], us, n, h, hn => nomatch hn
  | a :: l, [], n, h, hn => by cases h
  | a :: l, u :: us, n, h, hn => by
    rw [List.zip_cons_cons]
    by_cases q : (n == a) = true
    · simp [List.lookup, q]
    · have z : (n == a) = false := by simpa using q
      have hn2 : n ∈ l := by
        rcases List.mem_cons.mp hn with e | e
        · rw [e] at z; simp at z
        · exact e
      have ih := lookup_some (us := us) (by simpa using h) hn2
      simp only [List.lookup, z]
      exact ih
theorem bind_plain {x qual : Str} {as : List Arg} {body : List Stmt} {scope : Scope} (nd : (as.map (·.arg)).Nodup) (kV doc pm : Value) (an : Option Addr) (cdv ct : Value) (us : List Value) (hl : us.length = (as.map (·.arg)).length) :
    bindArgs (PySem.W.fnOf x qual ⟨[], as, none, [], [], none, []⟩ body scope .none kV doc pm an cdv ct) ⟨us, []⟩ = pure ((as.map (·.arg)).zip us) := by
  have hm : ((as.map (·.arg)).take (as.map (·.arg)).length).filter (fun n => (((as.map (·.arg)).zip us).lookup n).isNone) = [] := by
    rw [List.take_length, List.filter_eq_nil_iff]
    intro n hn
    rw [lookup_some hl hn]; exact Bool.false_ne_true
  unfold bindArgs PySem.W.fnOf
  have e0 : seqItems? Value.none = pure none := rfl
  have e1 : ¬ (us.length > (as.map (·.arg)).length) := by omega
  rw [List.take_length] at hm
  simp only [List.map_nil, List.nil_append, List.append_nil, List.forIn_nil, pure_bind, e0, Option.getD_none, List.drop_nil, List.length_nil, Nat.sub_zero, List.take_length, List.zip_nil_right, hm, e1, decide_false, Bool.false_and, List.isEmpty_nil, Bool.not_true, Bool.false_eq_true, if_false]
  exact congrArg pure (lookup_zip nd hl)

/-! ### a def of the text keeps what the tongue says of it -/
theorem start_len {N : List Str} {vs : List V} (h : vs.length ≤ N.length) : (start N vs).length = N.length := by
  unfold L2.start
  rw [List.length_append, List.length_map, List.length_replicate]; omega
theorem start_rs {K : PySem.W.Frag} {G H : Hp} {N : List Str} {vs : List V} {ds : List D} (s : Same G H) (r : DpAll K G vs ds) (h : vs.length ≤ N.length) : RSG K none H G G (start N vs) H (startE N.length ds) := by
  have e := dpAll_len r
  have hl : (startE N.length ds).length = N.length := by
    unfold startE
    rw [List.length_append, List.length_map, List.length_replicate]; omega
  have key : ∀ (i : Nat) (z : Sl), (startE N.length ds)[i]? = some z → z = .no ∨ ∃ d, z = .fr d ∧ ds[i]? = some d := by
    intro i z q
    unfold startE at q
    by_cases hi : i < ds.length
    · rw [List.getElem?_append_left (by simpa using hi), List.getElem?_map] at q
      cases q2 : ds[i]? with
      | none => rw [q2] at q; cases q
      | some d => rw [q2] at q; cases q; exact .inr ⟨d, rfl, rfl⟩
    · rw [List.getElem?_append_right (by simpa using hi), List.getElem?_replicate] at q
      split at q
      · cases q; exact .inl rfl
      · cases q
  refine ⟨Ext.refl s, ⟨by rw [start_len h, hl], fun i d q => ?_⟩, fun i es q => ?_, fun i b k fs q => ?_, fun p dx k q => (by cases q), fun i es q => by rcases key i _ q with z | ⟨d2, z, q2⟩ <;> cases z⟩
  · rcases key i _ q with z | ⟨d2, z, q2⟩
    · cases z
    · cases z
      obtain ⟨v, h1, h2⟩ := dpAll_get r q2
      refine ⟨v, ?_, h2⟩
      have hi : i < vs.length := by
        rcases Nat.lt_or_ge i vs.length with z | z
        · exact z
        · rw [List.getElem?_eq_none z] at h1; cases h1
      unfold L2.start
      rw [List.getElem?_append_left (by simpa using hi), List.getElem?_map, h1]; rfl
  · rcases key i _ q with z | ⟨d2, z, q2⟩
    · cases z
    · cases z
  · rcases key i _ q with z | ⟨d2, z, q2⟩
    · cases z
    · cases z
/-- at a method's start -/
theorem start_rsM {K : PySem.W.Frag} {G H : Hp} {N : List Str} {p dx : Addr} {k : Nat} {ws vs : List V} {fs ds : List D} (s : Same G H) (hp : H p = some (insO K k dx ws)) (rw0 : FlR K G H k ws fs) (gp : ∀ r ∈ rg H k p, G r = none) (r : DpAll K G vs ds) (h : vs.length + 1 ≤ N.length) :
    RSG K (some (.ins p dx k)) (delL H (rg H k p)) G G (start N (.ref p :: vs)) H ((startE N.length (.tuple fs :: ds)).set 0 (.ob true k fs)) := by
  have e := dpAll_len r
  have hl : (startE N.length (.tuple fs :: ds)).length = N.length := by
    unfold startE
    rw [List.length_append, List.length_map, List.length_replicate, List.length_cons]; omega
  have h0 : 0 < (startE N.length (.tuple fs :: ds)).length := by rw [hl]; omega
  have key : ∀ (i : Nat) (z : Sl), ((startE N.length (.tuple fs :: ds)).set 0 (.ob true k fs))[i]? = some z → (i = 0 ∧ z = .ob true k fs) ∨ (z = .no) ∨ ∃ d j, i = j + 1 ∧ z = .fr d ∧ ds[j]? = some d := by
    intro i z q
    cases i with
    | zero =>
      rw [List.getElem?_set_self h0] at q
      cases q
      exact .inl ⟨rfl, rfl⟩
    | succ j =>
      rw [List.getElem?_set_ne (by omega)] at q
      unfold startE at q
      rw [List.map_cons, List.cons_append, List.getElem?_cons_succ] at q
      by_cases hi : j < ds.length
      · rw [List.getElem?_append_left (by simpa using hi), List.getElem?_map] at q
        cases q2 : ds[j]? with
        | none => rw [q2] at q; cases q
        | some d => rw [q2] at q; cases q; exact .inr (.inr ⟨d, j, rfl, rfl, q2⟩)
      · rw [List.getElem?_append_right (by simpa using hi), List.getElem?_replicate] at q
        split at q
        · cases q; exact .inr (.inl rfl)
        · cases q
  have st0 : (start N (.ref p :: vs))[0]? = some (some (.ref p)) := rfl
  refine ⟨⟨delL_same, Same.refl _, s, fun _ _ _ n => n⟩, ⟨by rw [start_len (by simpa using h), List.length_set, hl], fun i d q => ?_⟩, fun i es q => ?_, fun i b k2 gs q => ?_, fun p2 dx2 k2 q => ?_, fun i es q => by rcases key i _ q with ⟨_, z⟩ | z | ⟨d2, j, z1, z, q2⟩ <;> cases z⟩
  · rcases key i _ q with ⟨_, z⟩ | z | ⟨d2, j, z1, z2, q2⟩
    · cases z
    · cases z
    · cases z2
      subst z1
      obtain ⟨v, h1, h2⟩ := dpAll_get r q2
      refine ⟨v, ?_, h2⟩
      have hi : j < vs.length := by
        rcases Nat.lt_or_ge j vs.length with z | z
        · exact z
        · rw [List.getElem?_eq_none z] at h1; cases h1
      unfold L2.start
      rw [List.map_cons, List.cons_append, List.getElem?_cons_succ, List.getElem?_append_left (by simpa using hi), List.getElem?_map, h1]; rfl
  · rcases key i _ q with ⟨_, z⟩ | z | ⟨d2, j, z1, z2, q2⟩
    · cases z
    · cases z
    · cases z2
  · rcases key i _ q with ⟨z0, z⟩ | z | ⟨d2, j, z1, z2, q2⟩
    · cases z
      subst z0
      refine ⟨p, dx, ws, st0, hp, rw0, fun r hr => delL_in hr, gp, .inl ⟨rfl, rfl⟩, fun j b2 k3 gs3 q3 n3 e3 _ => ?_⟩
      rcases key j _ e3 with ⟨y, _⟩ | y | ⟨_, _, _, y, _⟩
      · exact (n3 y).elim
      · cases y
      · cases y
    · cases z
    · cases z2
  · cases q
    exact ⟨fun r hr => ⟨gp r hr, delL_in hr, rg_facts hp rw0 r hr⟩, ws, hp⟩

/-- at the start of a def with a lent list -/
theorem start_rsL {K : PySem.W.Frag} {G H : Hp} {N : List Str} {p : Addr} {ws : List V} {es : List D} {v : V} {d : D} (s : Same G H) (hp : H p = some (.lst ws)) (rw0 : DpAll K G ws es) (gp : G p = none) (r : Dp K G v d) (h : 2 ≤ N.length) :
    RSG K (some (.lst p)) (del H p) G G (start N [v, .ref p]) H ((startE N.length [d, .list es]).set 1 (.ln es)) := by
  have hl : (startE N.length [d, .list es]).length = N.length := by
    unfold startE
    rw [List.length_append, List.length_map, List.length_replicate, List.length_cons, List.length_cons, List.length_nil]; omega
  have h0 : 1 < (startE N.length [d, .list es]).length := by rw [hl]; omega
  have key : ∀ (i : Nat) (z : Sl), ((startE N.length [d, .list es]).set 1 (.ln es))[i]? = some z → (i = 1 ∧ z = .ln es) ∨ z = .no ∨ (i = 0 ∧ z = .fr d) := by
    intro i z q
    by_cases hi : 1 = i
    · subst hi
      rw [List.getElem?_set_self h0] at q
      cases q
      exact .inl ⟨rfl, rfl⟩
    · rw [List.getElem?_set_ne hi] at q
      unfold startE at q
      cases i with
      | zero => cases q; exact .inr (.inr ⟨rfl, rfl⟩)
      | succ j => cases j with
        | zero => exact (hi rfl).elim
        | succ j =>
          rw [List.map_cons, List.map_cons, List.map_nil, List.cons_append, List.cons_append, List.getElem?_cons_succ, List.getElem?_cons_succ, List.nil_append, List.getElem?_replicate] at q
          split at q
          · cases q; exact .inr (.inl rfl)
          · cases q
  refine ⟨⟨del_same, Same.refl _, s, fun _ _ _ n => n⟩, ⟨by rw [start_len (by simpa using h), List.length_set, hl], fun i d2 q => ?_⟩, fun i es q => ?_, fun i b k2 gs q => ?_, fun p2 dx2 k2 q => (by cases q), fun i es2 q => ?_⟩
  · rcases key i _ q with ⟨_, z⟩ | z | ⟨z1, z⟩
    · cases z
    · cases z
    · cases z
      subst z1
      exact ⟨v, rfl, r⟩
  · rcases key i _ q with ⟨_, z⟩ | z | ⟨z1, z⟩ <;> cases z
  · rcases key i _ q with ⟨_, z⟩ | z | ⟨z1, z⟩ <;> cases z
  · rcases key i _ q with ⟨z0, z⟩ | z | ⟨z1, z⟩
    · cases z
      subst z0
      refine ⟨p, ws, rfl, hp, rw0, del_self, gp, rfl, fun j es3 n3 e3 => ?_, fun j es3 q3 e3 _ => ?_⟩
      · rcases key j _ e3 with ⟨y, _⟩ | y | ⟨_, y⟩
        · exact n3 y
        · cases y
        · cases y
      · rcases key j _ e3 with ⟨_, y⟩ | y | ⟨_, y⟩ <;> cases y
    · cases z
    · cases z
/-- how the body of a method begins -/
def bodyM (k : Nat) (ss b : Ss) : Prop := (isDk k = false ∧ (b = .cons (.self k) ss ∨ b = .cons (.selfI k) ss)) ∨ (isDk k = true ∧ ∃ ini, b = .cons (.keep ini k ss) .nil)
/-- the text's facts that every body leans on -/
structure Wd (T : Nat → Option Def) (g : Gm) (ex : List Str) (ca : Str → Value) (P : Program) (K : PySem.W.Frag) (mg : Str → Option Value) (w : World) : Prop where
  tree : P.given.tree = none
  blt : ∀ x ∈ blts, mg x = none
  cons : ∀ x j, (x, j) ∈ g.cons → ∃ u v, mg x = some u ∧ RelV v u ∧ ∀ H, Dp K H v (cst j)
  exm : ∀ c2, isRef c2 = false → ∀ c ∈ ex, PySem.W.exmOne K (ca c2) (ca c) = some (isSub c2 c)
  rai : ∀ c ∈ ex, ∃ C, ca c = .ref C ∧ mg c = some (.ref C) ∧ PySem.W.excIn K C He.veBase "ValueError.__new__" = true ∧ PySem.W.keepIn K (.ref C) = true ∧ PySem.W.subIn K (.ref C) (.type "BaseException") = some true ∧ PySem.W.typeIn K (.ref C) = some (.type "type")
  fns : ∀ x i, (x, i) ∈ g.fns → ∃ f fd N as body scope d y, mg x = some (.ref f) ∧ FunD K y y ⟨[], as, none, [], [], none, []⟩ body scope [] [] f fd ∧ FnScope N (as.map (·.arg)) scope ∧ T i = some d ∧ d.ini = false ∧ d.ps = as.length ∧ d.sl = N.length ∧ as.length ≤ N.length ∧ chkSs g ex d.body ⟨N, scope, fun _ => true, true, false⟩ body = true
  wrd : ∀ x k, (x, k) ∈ g.wrds → ∃ f fd as body scope, mg x = some (.ref f) ∧ FunD K x x ⟨[], as, none, [], [], none, []⟩ body scope [] [] f fd ∧ as.map (·.arg) = (["e"] : List Str) ∧ FnScope (["e", wN k] : List Str) (["e"] : List Str) scope ∧ wrdB k scope body = true
  rfd : g.rfd = true → ∃ C fI fd q0 as body scope, RefK ca K mg C fI ∧ FunD K ("__init__" : Str) q0 ⟨[], as, none, [], [], none, []⟩ body scope [] [] fI fd ∧ as.map (·.arg) = (["self", "word"] : List Str) ∧ FnScope (["self", "word"] : List Str) (as.map (·.arg)) scope ∧ refB scope body = true
  clo : g.wrds ≠ [] → mg "ValueError" = none ∧ ∃ C, mg (Str.ofString "CloseError") = some (.ref C) ∧ ∀ c, isRef c = false → PySem.W.exmOne K (ca c) (.ref C) = some true
  wcl : ∀ x k, (x, k) ∈ g.wrds → ∀ c, ∃ D, ca c = .ref D ∧ ExcC K D ∧ PySem.W.kitOne K (.ref D) (.type "ValueError") = some true ∧ ∀ j ∈ wtab k, ∃ C, mg j = some (.ref C) ∧ PySem.W.kitOne K (.ref D) (.ref C) = some (isSub c j)
  clss : ∀ k ∈ g.clss, ClsOk K mg k
  mths : ∀ k m i, (k, m, i) ∈ g.mths → ∃ f fd q N as body scope d ss, Meth K (clsA K k) m f ∧ FunD K m q ⟨[], as, none, [], [], none, []⟩ body scope [] [] f fd ∧ FnScope N (as.map (·.arg)) scope ∧ T i = some d ∧ d.ps = as.length ∧ d.sl = N.length ∧ as.length ≤ N.length ∧ (d.ini = decide (m = ("__init__" : Str))) ∧ bodyM k ss d.body ∧ chkSsM g ex ss ⟨N, scope, fun _ => true, true, true⟩ body = true
  inis : ∀ k i, (k, i) ∈ g.inis → (k, ("__init__" : Str), i) ∈ g.mths ∧ ∃ f, Mk K (clsA K k) f
  lfs : ∀ x i, (x, i) ∈ g.lfs → ∃ f fd N as body scope d ss y, mg x = some (.ref f) ∧ FunD K y y ⟨[], as, none, [], [], none, []⟩ body scope [] [] f fd ∧ FnScope N (as.map (·.arg)) scope ∧ T i = some d ∧ d.ps = as.length ∧ d.sl = N.length ∧ as.length ≤ N.length ∧ as.length = 2 ∧ d.body = .cons (.selfL 1) ss ∧ chkSs g ex ss ⟨N, scope, fun _ => true, true, true⟩ body = true
  dv : ∀ x j, (x, j) ∈ g.dvs → ∃ d es m, mg x = some (.ref d) ∧ KDict K w d es m ∧ ∀ z, ∃ r, PySem.W.nsIn K d z = some r ∧ r.isSome = ((dctV j).lookup z).isSome ∧ ∀ s, (dctV j).lookup z = some s → ∃ t, r = some (.str s t)
  dct : ∀ x j, (x, j) ∈ g.dcts → ∃ d es m, mg x = some (.ref d) ∧ KDict K w d es m ∧ ∀ z b, (z, b) ∈ dctT j → ∃ r, PySem.W.nsIn K d z = some r ∧ r.isSome = b

/-- the maker of the class whose exceptions carry a word -/
theorem ref_of {T : Nat → Option Def} {g : Gm} {ex : List Str} {ca : Str → Value} {P : Program} {w : World} {K : PySem.W.Frag} {mg : Str → Option Value} {base : Heap} (Z : Wd T g ex ca P K mg w) (h : g.rfd = true) :
    ∃ C fI fd ps, RefK ca K mg C fI ∧ FnOk P w K mg base (L2N.CX P w) 30 fI fd ps (spRI C) ∧ Binds K fd ps [] := by
  obtain ⟨C, fI, fd, q0, as, body, scope, R, F, ea, S, hb⟩ := Z.rfd h
  exact ⟨C, fI, fd, as.map (·.arg), R, ref_fn R F S ea hb, F.bindsN fun kV doc pm an cdv ct us hl => bind_plain (by rw [ea]; decide) kV doc pm an cdv ct us hl⟩
/-- a def that tells words keeps what the tongue says of it -/
theorem word_fn {T : Nat → Option Def} {g : Gm} {ex : List Str} {ca : Str → Value} {P : Program} {w : World} {K : PySem.W.Frag} {mg : Str → Option Value} {base : Heap} (Z : Wd T g ex ca P K mg w) {x : Str} {k : Nat} (h : (x, k) ∈ g.wrds) :
    ∃ f fd ps, mg x = some (.ref f) ∧ PySem.W.keepIn K (.ref f) = true ∧ Binds K fd ps [] ∧ FnW P w K mg base (L2N.CX P w) 30 f fd ps (spW ca k) := by
  obtain ⟨f, fd, as, body, scope, m1, F, ea, S, hb⟩ := Z.wrd x k h
  obtain ⟨ve, _⟩ := Z.clo (fun z => by rw [z] at h; cases h)
  refine ⟨f, fd, as.map (·.arg), m1, F.kp, F.bindsN fun kV doc pm an cdv ct us hl => bind_plain (by rw [ea]; decide) kV doc pm an cdv ct us hl, ?_⟩
  rw [ea]
  refine fnW_of (k := 29) F S (fun q vs H Q E ⟨c, e, _⟩ => by rw [e]; rfl) fun cdv A out s H vs Q E q hot hr ⟨c, ev, hz, hf, hq⟩ => ?_
  subst ev
  obtain ⟨D, d1, d2, d3, d4⟩ := Z.wcl x k h c
  rw [d1] at hz
  have W : WordCx (L2H.cxH (L2N.CX P w) P w K mg base (["e", wN k] : List Str) x scope f cdv A out s H E q) (wtab k) scope c q.1 D q.2 (wN k) :=
    ⟨rfl, rfl, fun _ => rfl, List.mem_singleton.mpr rfl, ⟨q, hot, List.mem_singleton.mpr rfl⟩, by
      have z := hr.un
      show (A.deeper (envOfC x scope s.heap.objs.size f cdv)).units + 65 < cLine
      omega, d2, hz.zc, hf, fun y hy => by
        rcases List.mem_cons.mp hy with rfl | hy
        · exact Z.blt _ (by decide)
        · rcases List.mem_cons.mp hy with rfl | hy
          · exact Z.blt _ (by decide)
          · rcases List.mem_cons.mp hy with rfl | hy
            · exact Z.blt _ (by decide)
            · rcases List.mem_cons.mp hy with rfl | hy
              · exact ve
              · have e : y = ("any" : Str) := by simpa using hy
                rw [e]; exact Z.blt _ (by decide), d4, d3⟩
  cases hk : isTr k with
  | true =>
    have hb2 : truB scope (wtab k) body = true := by unfold wrdB at hb; rwa [if_pos hk] at hb
    have en : wN k = "others" := if_pos hk
    rw [en] at W S ⊢
    refine ⟨_, truB_ok W hb2, rfl, rfl, fun H' g => ?_⟩
    have z := hq H' g
    rwa [wordV_tr hk] at z
  | false =>
    have hb2 : wordB scope (wtab k) (wtab k) body = true := by unfold wrdB at hb; rwa [if_neg (by rw [hk]; exact Bool.false_ne_true)] at hb
    have en : wN k = "flags" := if_neg (by rw [hk]; exact Bool.false_ne_true)
    rw [en] at W S ⊢
    refine ⟨_, wordB_ok W hb2, rfl, rfl, fun H' g => ?_⟩
    have z := hq H' g
    rwa [wordV_str hk] at z

theorem fn_one {T : Nat → Option Def} {g : Gm} {ex : List Str} {ca : Str → Value} {P : Program} {w : World} {K : PySem.W.Frag} {mg : Str → Option Value} {base : Heap} {n : Nat} {x : Str} {i : Nat} {f : Addr} {fd : FuncData} {N : List Str} {as : List Arg} {body : List Stmt} {scope : Scope} {d : Def} (Z : Wd T g ex ca P K mg w) (sr : base.NoSeer)
    (ih : ∀ (x : Str) (i : Nat), (x, i) ∈ g.fns → ∃ f fd ps, mg x = some (.ref f) ∧ PySem.W.keepIn K (.ref f) = true ∧ Binds K fd ps [] ∧ FnOk P w K mg base (L2N.CX P w) (n + 46) f fd ps (spF T ca K n i))
    (ihm : ∀ k m i, (k, m, i) ∈ g.mths → ∃ f fd ps, Meth K (clsA K k) m f ∧ Binds K fd ps [] ∧ FnOk P w K mg base (L2N.CX P w) (n + 46) f fd ps (spM T ca K n i k))
    (ihi : ∀ k i, (k, i) ∈ g.inis → ∃ f fd ps, Mk K (clsA K k) f ∧ Binds K fd ps [] ∧ FnOk P w K mg base (L2N.CX P w) (n + 45) f fd ps (spM T ca K n i k))
    (ihl : ∀ x i, (x, i) ∈ g.lfs → ∃ f fd ps, mg x = some (.ref f) ∧ PySem.W.keepIn K (.ref f) = true ∧ Binds K fd ps [] ∧ FnOk P w K mg base (L2N.CX P w) (n + 46) f fd ps (spL T K n i))
    (F : FunD K x x ⟨[], as, none, [], [], none, []⟩ body scope [] [] f fd) (S : FnScope N (as.map (·.arg)) scope) (e1 : T i = some d) (e0i : d.ini = false) (e2 : d.ps = as.length) (e3 : d.sl = N.length) (e4 : as.length ≤ N.length) (h2 : chkSs g ex d.body ⟨N, scope, fun _ => true, true, false⟩ body = true) :
    FnOk P w K mg base (L2N.CX P w) (n + 1 + 46) f fd (as.map (·.arg)) (spF T ca K (n + 1) i) := by
  have e5 : n + 1 + 46 = (n + 46) + 1 := by omega
  rw [e5]
  have ev1 : ∀ ds, evc T (n + 1) i ds = runD (evc T n) d ds := fun ds => evc_one e1 e0i
  refine F.ok S (fun vs H Q E q => ?_) fun cdv A outer s H vs Q E hr q => ?_
  · obtain ⟨ds, G, _, r, z⟩ := q
    rw [ev1] at z
    unfold runD at z
    split at z
    · rw [dpAll_len r, List.length_map, ← e2]; assumption
    · exact z.elim
  · obtain ⟨ds, G, sG, r, z⟩ := q
    rw [ev1] at z
    unfold runD at z
    split at z
    · rename_i hlen
      have hvl : vs.length ≤ N.length := by rw [dpAll_len r, hlen, e2]; exact e4
      have C : CxS T g ex ca n ⟨N, scope, fun _ => true, true, false⟩ (cxOf (L2N.CX P w) P w K mg base N x scope f cdv A outer s H E) :=
        ⟨⟨rfl, rfl, rfl, fun _ => ⟨rfl, rfl⟩, S.nd, rfl, hr, ⟨by
            have q := hr.dp
            show (A.deeper (envOfC x scope s.heap.objs.size f cdv)).depth + 100 < recursionLimit
            omega, sr, Z.tree, ⟨_, _, rfl, S.gen, S.co, rfl, rfl⟩⟩, Z.blt, Z.cons, ih, fun x j h => ⟨Z.dct x j h⟩, Z.clss, ihm, ihi, ihl, fun x j h => ⟨Z.dv x j h⟩⟩, rfl, rfl, passes_of rfl, S.kind, Z.exm, fun c hc => by
            obtain ⟨A, a1, a2, a3, a4, a5, a6⟩ := Z.rai c hc
            exact ⟨A, a1, a2, a3, a4, raises_own a5 a6⟩, fun x k h => word_fn Z h, fun h => (by
            obtain ⟨C, fI, fd, ps, R1, R2, R3⟩ := ref_of (base := base) (P := P) (w := w) Z h
            exact ⟨C, fI, fd, ps, R1, R2, R3⟩), fun h => (Z.clo h).2⟩
      refine ⟨_, sndSs d.body C (L2N.takes_of rfl rfl rfl rfl) h2, none, H, G, G, startE N.length ds, rfl, start_rs sG r hvl, ?_⟩
      rw [← e3]
      show OutS K ca _ none H G _ (evSs (evc T n) (startE d.sl ds) d.body)
      cases eb : evSs (evc T n) (startE d.sl ds) d.body with
      | next e1 => rw [eb] at z; exact fun σ2 H2 G2 R2 => z .non H2 G2 R2.x .non
      | ret x => rw [eb] at z; exact fun v H2 G2 x2 p2 => z v H2 G2 x2 p2
      | exc c2 e1 => rw [eb] at z; exact fun σ2 H2 G2 R2 => z H2 G2 R2.x
      | brk e1 => rw [eb] at z; exact z.elim
      | cont e1 => rw [eb] at z; exact z.elim
      | bad => rw [eb] at z; exact z.elim
    · exact z.elim
theorem metO_ok {r : R D} {x : D × List D} (h : metO r = .ok x) : r = .ok (.tuple [x.1, .tuple x.2]) := by
  unfold metO at h
  split at h
  · cases h; rfl
  · cases h
  · cases h
theorem metO_exc {r : R D} {c : Str} (h : metO r = .exc c) : r = .exc c := by
  unfold metO at h
  split at h
  · cases h
  · cases h; rfl
  · cases h
theorem RsY.bad {K : PySem.W.Frag} {B : Str → Hp → Prop} {H G : Hp} {p dx : Addr} {k : Nat} {Q : VK} (h : RsY K B H G p dx k Q .bad) : False := by
  unfold RsY at h
  split at h
  · exact h.2 rfl
  · exact h
theorem keepO_bad {k : Nat} {x : D} (h : metO (.ok x) = .bad) : keepO k (.ret x) = .bad := by
  unfold keepO
  split
  · rename_i e; cases e
  · rename_i e
    cases e
    cases h
  · rfl
/-- a method keeps what the tongue says of it -/
theorem mth_core {T : Nat → Option Def} {g : Gm} {ex : List Str} {ca : Str → Value} {P : Program} {w : World} {K : PySem.W.Frag} {mg : Str → Option Value} {base : Heap} {n M : Nat} {x q0 : Str} {i k : Nat} {f : Addr} {fd : FuncData} {N : List Str} {as : List Arg} {body : List Stmt} {scope : Scope} {d : Def} {ss : Ss} (Z : Wd T g ex ca P K mg w) (sr : base.NoSeer)
    (ih : ∀ (x : Str) (i : Nat), (x, i) ∈ g.fns → ∃ f fd ps, mg x = some (.ref f) ∧ PySem.W.keepIn K (.ref f) = true ∧ Binds K fd ps [] ∧ FnOk P w K mg base (L2N.CX P w) (n + 46) f fd ps (spF T ca K n i))
    (ihm : ∀ k m i, (k, m, i) ∈ g.mths → ∃ f fd ps, Meth K (clsA K k) m f ∧ Binds K fd ps [] ∧ FnOk P w K mg base (L2N.CX P w) (n + 46) f fd ps (spM T ca K n i k))
    (ihi : ∀ k i, (k, i) ∈ g.inis → ∃ f fd ps, Mk K (clsA K k) f ∧ Binds K fd ps [] ∧ FnOk P w K mg base (L2N.CX P w) (n + 45) f fd ps (spM T ca K n i k))
    (ihl : ∀ x i, (x, i) ∈ g.lfs → ∃ f fd ps, mg x = some (.ref f) ∧ PySem.W.keepIn K (.ref f) = true ∧ Binds K fd ps [] ∧ FnOk P w K mg base (L2N.CX P w) (n + 46) f fd ps (spL T K n i))
    (F : FunD K x q0 ⟨[], as, none, [], [], none, []⟩ body scope [] [] f fd) (S : FnScope N (as.map (·.arg)) scope) (ev1 : ∀ ds, evc T M i ds = runD (evc T n) d ds) (e2 : d.ps = as.length) (e3 : d.sl = N.length) (e4 : as.length ≤ N.length) (e0 : bodyM k ss d.body) (h2 : chkSsM g ex ss ⟨N, scope, fun _ => true, true, true⟩ body = true) :
    FnOk P w K mg base (L2N.CX P w) ((n + 46) + 1) f fd (as.map (·.arg)) (spM T ca K M i k) := by
  have hlen : ∀ {B : Str → Hp → Prop} {H G : Hp} {p dx : Addr} {Q : VK} {ds : List D}, RsY K B H G p dx k Q (evc T M i ds) → ds.length = d.ps := fun {B H G p dx Q ds} z => by
    rw [ev1] at z
    unfold runD at z
    split at z
    · assumption
    · exact z.bad.elim
  refine F.ok S (fun vs H Q E q => ?_) fun cdv A outer s H vs Q E hr q => ?_
  · obtain ⟨p, dx, ws, fs, us, ds, G, rfl, g1, g2, g3, g4, g5, z⟩ := q
    have y := hlen z
    rw [List.length_cons] at y
    rw [List.length_cons, dpAll_len g5, List.length_map, ← e2, y]
  · obtain ⟨p, dx, ws, fs, us, ds, G, rfl, g1, g2, g3, g4, g5, z⟩ := q
    have y := hlen z
    have hvl : us.length + 1 ≤ N.length := by
      rw [dpAll_len g5]
      rw [List.length_cons] at y
      omega
    have C : CxS T g ex ca n ⟨N, scope, fun _ => true, true, true⟩ (cxOf (L2N.CX P w) P w K mg base N q0 scope f cdv A outer s H E) :=
      ⟨⟨rfl, rfl, rfl, fun _ => ⟨rfl, rfl⟩, S.nd, rfl, hr, ⟨by
          have q := hr.dp
          show (A.deeper (envOfC q0 scope s.heap.objs.size f cdv)).depth + 100 < recursionLimit
          omega, sr, Z.tree, ⟨_, _, rfl, S.gen, S.co, rfl, rfl⟩⟩, Z.blt, Z.cons, ih, fun x j h => ⟨Z.dct x j h⟩, Z.clss, ihm, ihi, ihl, fun x j h => ⟨Z.dv x j h⟩⟩, rfl, rfl, passes_of rfl, S.kind, Z.exm, fun c hc => by
          obtain ⟨A, a1, a2, a3, a4, a5, a6⟩ := Z.rai c hc
          exact ⟨A, a1, a2, a3, a4, raises_own a5 a6⟩, fun x k h => word_fn Z h, fun h => (by
            obtain ⟨C, fI, fd, ps, R1, R2, R3⟩ := ref_of (base := base) (P := P) (w := w) Z h
            exact ⟨C, fI, fd, ps, R1, R2, R3⟩), fun h => (Z.clo h).2⟩
    refine ⟨_, sndSsM ss rfl C (L2N.takes_of rfl rfl rfl rfl) h2, fun _ _ h => h, some (.ins p dx k), delL H (rg H k p), G, G, (startE N.length (.tuple fs :: ds)).set 0 (.ob true k fs), rfl, start_rsM g4 g1 g2 g3 g5 hvl, ?_⟩
    rw [ev1] at z
    unfold runD at z
    rw [if_pos y] at z
    have st0 : (startE d.sl (.tuple fs :: ds))[0]? = some (.fr (.tuple fs)) := rfl
    rcases e0 with ⟨nk, e0⟩ | ⟨nk, ini, e0⟩
    · unfold RsY at z
      rw [nk, if_neg Bool.false_ne_true] at z
      have es : evSs (evc T n) (startE d.sl (.tuple fs :: ds)) d.body = evSs (evc T n) ((startE d.sl (.tuple fs :: ds)).set 0 (.ob true k fs)) ss := by
        rcases e0 with e0 | e0
        · rw [e0]
          simp only [evSs, evS]
          rw [st0]
        · rw [e0]
          simp only [evSs, evS]
          rw [st0]
      rw [es] at z
      rw [← e3]
      show OutS K ca _ (some (.ins p dx k)) (delL H (rg H k p)) G _ (evSs (evc T n) ((startE d.sl (.tuple fs :: ds)).set 0 (.ob true k fs)) ss)
      cases eb : evSs (evc T n) ((startE d.sl (.tuple fs :: ds)).set 0 (.ob true k fs)) ss with
      | next e1 => rw [eb] at z; exact z.elim
      | brk e1 => rw [eb] at z; exact z.elim
      | cont e1 => rw [eb] at z; exact z.elim
      | bad => rw [eb] at z; exact z.elim
      | ret x =>
        rw [eb] at z
        dsimp only at z
        cases em : metO (.ok x) with
        | bad => rw [em] at z; exact z.elim
        | exc c => cases metO_exc em
        | ok r =>
          rw [em] at z
          have ex := metO_ok em
          cases ex
          refine ⟨r.1, r.2, rfl, fun v H2 G2 ws2 x2 a1 a2 a3 a5 a4 => z v H2 G2 ws2 ⟨fun b o w => ?_, x2.b, fun b o w => ?_, x2.d⟩ a1 a2 a3 a4⟩
          · rw [delL_ne fun y => by rw [a5 b y] at w; cases w]; exact x2.a b o w
          · rw [delL_ne fun y => by rw [a3 b y] at w; cases w]; exact x2.c b o w
      | exc c2 e1 =>
        rw [eb] at z
        intro σ2 H2 G2 R2
        obtain ⟨s1, ws2, s2⟩ := R2.s p dx k rfl
        refine z H2 G2 ws2 ⟨fun b o w => ?_, R2.x.b, fun b o w => ?_, R2.x.d⟩ s2 fun r hr => (s1 r hr).2.2
        · rw [delL_ne fun y => by rw [(s1 b y).2.1] at w; cases w]; exact R2.x.a b o w
        · rw [delL_ne fun y => by rw [(s1 b y).1] at w; cases w]; exact R2.x.c b o w
    · have es : evSs (evc T n) (startE d.sl (.tuple fs :: ds)) d.body = keepO k (evSs (evc T n) ((startE d.sl (.tuple fs :: ds)).set 0 (.ob true k fs)) ss) := by
        rw [e0]
        simp only [evSs, evS]
        rw [st0]
        dsimp only
        cases keepO k (evSs (evc T n) ((startE d.sl (.tuple fs :: ds)).set 0 (.ob true k fs)) ss) <;> rfl
      rw [es] at z
      rw [← e3]
      show OutS K ca _ (some (.ins p dx k)) (delL H (rg H k p)) G _ (evSs (evc T n) ((startE d.sl (.tuple fs :: ds)).set 0 (.ob true k fs)) ss)
      cases eb : evSs (evc T n) ((startE d.sl (.tuple fs :: ds)).set 0 (.ob true k fs)) ss with
      | next e1 => rw [eb] at z; exact z.bad.elim
      | brk e1 => rw [eb] at z; exact z.bad.elim
      | cont e1 => rw [eb] at z; exact z.bad.elim
      | bad => rw [eb] at z; exact z.bad.elim
      | ret x =>
        rw [eb] at z
        cases em : metO (.ok x) with
        | bad => rw [keepO_bad em] at z; exact z.bad.elim
        | exc c => cases metO_exc em
        | ok r =>
          have ex := metO_ok em
          cases ex
          have z : RsY K _ H G p dx k Q (.ok (.tuple [r.1, .tuple r.2])) := z
          unfold RsY at z
          rw [if_pos nk] at z
          have z := z.1 (by rw [em]; intro w; cases w)
          rw [em] at z
          refine ⟨r.1, r.2, rfl, fun v H2 G2 ws2 x2 a1 a2 a3 a5 a4 => z v H2 G2 ws2 ⟨fun b o w => ?_, x2.b, fun b o w => ?_, x2.d⟩ a1 a2 a3 a4⟩
          · rw [delL_ne fun y => by rw [a5 b y] at w; cases w]; exact x2.a b o w
          · rw [delL_ne fun y => by rw [a3 b y] at w; cases w]; exact x2.c b o w
      | exc c2 e1 =>
        rw [eb] at z
        intro σ2 H2 G2 R2
        obtain ⟨s1, ws2, s2⟩ := R2.s p dx k rfl
        by_cases hq : ∃ fs2, e1[0]? = some (.ob true k fs2)
        case neg =>
          have ek : keepO k (.exc c2 e1) = .bad := by
            unfold keepO
            dsimp only
            split
            · rename_i k' fs2 q0
              rw [if_neg fun w => hq ⟨fs2, by rw [q0, w]⟩]
            · rfl
          rw [ek] at z
          exact z.bad.elim
        obtain ⟨fs2, q0⟩ := hq
        have ek : keepO k (.exc c2 e1) = .ret (.tuple [.str c2, .tuple fs2, .none]) := by
          unfold keepO
          dsimp only
          rw [q0]
          dsimp only
          rw [if_pos rfl]
        rw [ek] at z
        have z : RsY K _ H G p dx k Q (.ok (.tuple [.str c2, .tuple fs2, .none])) := z
        obtain ⟨p1, dx1, vs1, b1, b2, b3, b4, b5, b6, _⟩ := R2.b 0 true k fs2 q0
        rcases b6 with ⟨_, b6⟩ | ⟨b6, _⟩
        case inr => cases b6
        cases b6
        unfold RsY at z
        rw [if_pos nk] at z
        have z := z.2 rfl
        refine z H2 G2 vs1 ⟨fun b o w => ?_, R2.x.b, fun b o w => ?_, R2.x.d⟩ b2 b3 b5
        · rw [delL_ne fun y => by rw [(s1 b y).2.1] at w; cases w]; exact R2.x.a b o w
        · rw [delL_ne fun y => by rw [(s1 b y).1] at w; cases w]; exact R2.x.c b o w
/-- a def with a lent list keeps what the tongue says of it -/
theorem lst_one {T : Nat → Option Def} {g : Gm} {ex : List Str} {ca : Str → Value} {P : Program} {w : World} {K : PySem.W.Frag} {mg : Str → Option Value} {base : Heap} {n : Nat} {x : Str} {i : Nat} {f : Addr} {fd : FuncData} {N : List Str} {as : List Arg} {body : List Stmt} {scope : Scope} {d : Def} {ss : Ss} (Z : Wd T g ex ca P K mg w) (sr : base.NoSeer)
    (ih : ∀ (x : Str) (i : Nat), (x, i) ∈ g.fns → ∃ f fd ps, mg x = some (.ref f) ∧ PySem.W.keepIn K (.ref f) = true ∧ Binds K fd ps [] ∧ FnOk P w K mg base (L2N.CX P w) (n + 46) f fd ps (spF T ca K n i))
    (ihm : ∀ k m i, (k, m, i) ∈ g.mths → ∃ f fd ps, Meth K (clsA K k) m f ∧ Binds K fd ps [] ∧ FnOk P w K mg base (L2N.CX P w) (n + 46) f fd ps (spM T ca K n i k))
    (ihi : ∀ k i, (k, i) ∈ g.inis → ∃ f fd ps, Mk K (clsA K k) f ∧ Binds K fd ps [] ∧ FnOk P w K mg base (L2N.CX P w) (n + 45) f fd ps (spM T ca K n i k))
    (ihl : ∀ x i, (x, i) ∈ g.lfs → ∃ f fd ps, mg x = some (.ref f) ∧ PySem.W.keepIn K (.ref f) = true ∧ Binds K fd ps [] ∧ FnOk P w K mg base (L2N.CX P w) (n + 46) f fd ps (spL T K n i))
    (F : FunD K x x ⟨[], as, none, [], [], none, []⟩ body scope [] [] f fd) (S : FnScope N (as.map (·.arg)) scope) (e1 : T i = some d) (e0i : d.ini = false) (e2 : d.ps = as.length) (e3 : d.sl = N.length) (e4 : as.length ≤ N.length) (e6 : as.length = 2) (e0 : d.body = .cons (.selfL 1) ss) (h2 : chkSs g ex ss ⟨N, scope, fun _ => true, true, true⟩ body = true) :
    FnOk P w K mg base (L2N.CX P w) (n + 1 + 46) f fd (as.map (·.arg)) (spL T K (n + 1) i) := by
  have e5 : n + 1 + 46 = (n + 46) + 1 := by omega
  rw [e5]
  have ev1 : ∀ ds, evc T (n + 1) i ds = runD (evc T n) d ds := fun ds => evc_one e1 e0i
  refine F.ok S (fun vs H Q E q => ?_) fun cdv A outer s H vs Q E hr q => ?_
  · obtain ⟨v, p, ws, es, d0, G, rfl, _⟩ := q
    rw [List.length_map, e6]; rfl
  · obtain ⟨v, p, ws, es, d0, G, rfl, g1, g2, g3, g4, g5, z⟩ := q
    have C : CxS T g ex ca n ⟨N, scope, fun _ => true, true, true⟩ (cxOf (L2N.CX P w) P w K mg base N x scope f cdv A outer s H E) :=
      ⟨⟨rfl, rfl, rfl, fun _ => ⟨rfl, rfl⟩, S.nd, rfl, hr, ⟨by
          have q := hr.dp
          show (A.deeper (envOfC x scope s.heap.objs.size f cdv)).depth + 100 < recursionLimit
          omega, sr, Z.tree, ⟨_, _, rfl, S.gen, S.co, rfl, rfl⟩⟩, Z.blt, Z.cons, ih, fun x j h => ⟨Z.dct x j h⟩, Z.clss, ihm, ihi, ihl, fun x j h => ⟨Z.dv x j h⟩⟩, rfl, rfl, passes_of rfl, S.kind, Z.exm, fun c hc => by
          obtain ⟨A, a1, a2, a3, a4, a5, a6⟩ := Z.rai c hc
          exact ⟨A, a1, a2, a3, a4, raises_own a5 a6⟩, fun x k h => word_fn Z h, fun h => (by
            obtain ⟨C, fI, fd, ps, R1, R2, R3⟩ := ref_of (base := base) (P := P) (w := w) Z h
            exact ⟨C, fI, fd, ps, R1, R2, R3⟩), fun h => (Z.clo h).2⟩
    have y : ([d0, .list es] : List D).length = d.ps := by rw [e2, e6]; rfl
    refine ⟨_, sndSs ss C (L2N.takes_of rfl rfl rfl rfl) h2, some (.lst p), del H p, G, G, (startE N.length [d0, .list es]).set 1 (.ln es), rfl, start_rsL g4 g1 g2 g3 g5 (by omega), ?_⟩
    rw [ev1] at z
    unfold runD at z
    rw [if_pos y, e0] at z
    have st0 : (startE d.sl [d0, .list es])[1]? = some (.fr (.list es)) := rfl
    have es0 : evSs (evc T n) (startE d.sl [d0, .list es]) (.cons (.selfL 1) ss) = evSs (evc T n) ((startE d.sl [d0, .list es]).set 1 (.ln es)) ss := by
      simp only [evSs, evS]
      rw [st0]
    rw [es0] at z
    rw [← e3]
    show OutS K ca _ (some (.lst p)) (del H p) G _ (evSs (evc T n) ((startE d.sl [d0, .list es]).set 1 (.ln es)) ss)
    cases eb : evSs (evc T n) ((startE d.sl [d0, .list es]).set 1 (.ln es)) ss with
    | next e1 => rw [eb] at z; exact z.elim
    | brk e1 => rw [eb] at z; exact z.elim
    | cont e1 => rw [eb] at z; exact z.elim
    | bad => rw [eb] at z; exact z.elim
    | exc c2 e1 => rw [eb] at z; exact z.elim
    | ret x =>
      rw [eb] at z
      dsimp only at z
      cases em : metL (.ok x) with
      | bad => rw [em] at z; exact z.elim
      | exc c => exact (metL_exc em).elim
      | ok r =>
        rw [em] at z
        have ex := metL_ok em
        cases ex
        refine ⟨r.1, r.2, rfl, fun v H2 G2 ws2 x2 a1 a2 a3 a4 => z v H2 G2 ws2 ⟨fun b o w => ?_, x2.b, fun b o w => ?_, x2.d⟩ a1 a2 a3 a4⟩
        · rw [del_ne (del_some w).1]; exact x2.a b o w
        · rw [del_ne (ne_of_none w a3)]; exact x2.c b o w
/-- functions, methods, makers -/
structure All3 (T : Nat → Option Def) (g : Gm) (ca : Str → Value) (P : Program) (w : World) (K : PySem.W.Frag) (mg : Str → Option Value) (base : Heap) (n : Nat) : Prop where
  f : ∀ (x : Str) (i : Nat), (x, i) ∈ g.fns → ∃ f fd ps, mg x = some (.ref f) ∧ PySem.W.keepIn K (.ref f) = true ∧ Binds K fd ps [] ∧ FnOk P w K mg base (L2N.CX P w) (n + 46) f fd ps (spF T ca K n i)
  m : ∀ k m i, (k, m, i) ∈ g.mths → ∃ f fd ps, Meth K (clsA K k) m f ∧ Binds K fd ps [] ∧ FnOk P w K mg base (L2N.CX P w) (n + 46) f fd ps (spM T ca K n i k)
  l : ∀ x i, (x, i) ∈ g.lfs → ∃ f fd ps, mg x = some (.ref f) ∧ PySem.W.keepIn K (.ref f) = true ∧ Binds K fd ps [] ∧ FnOk P w K mg base (L2N.CX P w) (n + 46) f fd ps (spL T K n i)
  i : ∀ k i, (k, i) ∈ g.inis → ∃ f fd ps, Mk K (clsA K k) f ∧ Binds K fd ps [] ∧ FnOk P w K mg base (L2N.CX P w) (n + 45) f fd ps (spM T ca K n i k)
section
variable {T : Nat → Option Def} {g : Gm} {ex : List Str} {ca : Str → Value} {P : Program} {w : World} {K : PySem.W.Frag} {mg : Str → Option Value} {base : Heap}
theorem spM_bad {M i k lv : Nat} {f : Addr} {fd : FuncData} {ps : List Str} (h : ∀ ds, evc T M i ds = .bad) : FnOk P w K mg base (L2N.CX P w) lv f fd ps (spM T ca K M i k) := by
  have no : ∀ vs H Q E, spM T ca K M i k vs H Q E → False := fun vs H Q E q => by
    obtain ⟨_, _, _, _, _, _, _, _, _, _, _, _, _, z⟩ := q
    rw [h] at z
    exact z.bad
  exact ⟨fun vs H Q E q => (no _ _ _ _ q).elim, fun A outer s H args us vs Q E _ _ _ _ q => (no _ _ _ _ q).elim⟩
/-- a method, one level on -/
theorem mth_next (Z : Wd T g ex ca P K mg w) (sr : base.NoSeer) {n : Nat} (A : All3 T g ca P w K mg base n) (B : ∀ m, n = m + 1 → All3 T g ca P w K mg base m) {k : Nat} {m : Str} {i : Nat} (h : (k, m, i) ∈ g.mths) :
    ∃ f fd ps, Meth K (clsA K k) m f ∧ Binds K fd ps [] ∧ FnOk P w K mg base (L2N.CX P w) (n + 1 + 46) f fd ps (spM T ca K (n + 1) i k) ∧ (m = ("__init__" : Str) → FnOk P w K mg base (L2N.CX P w) (n + 1 + 45) f fd ps (spM T ca K (n + 1) i k)) := by
  obtain ⟨f, fd, q0, N, as, body, scope, d, ss, h1, F, S, e1, e2, e3, e4, e5, e0, h2⟩ := Z.mths k m i h
  refine ⟨f, fd, as.map (·.arg), h1, F.bindsN fun kV doc pm an cdv ct us hl => bind_plain (by have q := S.nd; rw [← S.pre]; exact q.sublist (List.take_sublist _ _)) kV doc pm an cdv ct us hl, ?_⟩
  by_cases hm : m = ("__init__" : Str)
  · rw [decide_eq_true hm] at e5
    have key : FnOk P w K mg base (L2N.CX P w) (n + 1 + 45) f fd (as.map (·.arg)) (spM T ca K (n + 1) i k) := by
      cases n with
      | zero => exact spM_bad fun ds => evc_ini1 e1 e5
      | succ p =>
        have C := B p rfl
        exact FnOk.mono (mth_core (n := p) (M := p + 1 + 1) Z sr C.f C.m C.i C.l F S (fun ds => evc_ini e1 e5) e2 e3 e4 e0 h2) (by omega)
    exact ⟨key.mono (by omega), fun _ => key⟩
  · rw [decide_eq_false hm] at e5
    exact ⟨FnOk.mono (mth_core (n := n) (M := n + 1) Z sr A.f A.m A.i A.l F S (fun ds => evc_one e1 e5) e2 e3 e4 e0 h2) (by omega), fun z => (hm z).elim⟩
theorem fn_all2 (Z : Wd T g ex ca P K mg w) (sr : base.NoSeer) : ∀ (n : Nat), All3 T g ca P w K mg base n ∧ ∀ m, n = m + 1 → All3 T g ca P w K mg base m
  | 0 => by
    refine ⟨⟨fun x i h => ?_, fun k m i h => ?_, fun x i h => ?_, fun k i h => ?_⟩, fun m h => by omega⟩
    · obtain ⟨f, fd, N, as, body, scope, d, y, h1, F, S, e1, e5, e2, e3, e4, h2⟩ := Z.fns x i h
      refine ⟨f, fd, as.map (·.arg), h1, F.kp, F.bindsN fun kV doc pm an cdv ct us hl => bind_plain (by have q := S.nd; rw [← S.pre]; exact q.sublist (List.take_sublist _ _)) kV doc pm an cdv ct us hl, ⟨fun vs H Q E q => ?_, fun A outer s H args us vs Q E _ _ _ _ q => ?_⟩⟩
      · obtain ⟨ds, G, _, _, z⟩ := q; exact z.elim
      · obtain ⟨ds, G, _, _, z⟩ := q; exact z.elim
    · obtain ⟨f, fd, q0, N, as, body, scope, d, ss, h1, F, S, e1, e2, e3, e4, e5, e0, h2⟩ := Z.mths k m i h
      exact ⟨f, fd, as.map (·.arg), h1, F.bindsN fun kV doc pm an cdv ct us hl => bind_plain (by have q := S.nd; rw [← S.pre]; exact q.sublist (List.take_sublist _ _)) kV doc pm an cdv ct us hl, spM_bad fun ds => rfl⟩
    · obtain ⟨f, fd, N, as, body, scope, d, ss, y, h1, F, S, e1, e2, e3, e4, e6, e0, h2⟩ := Z.lfs x i h
      refine ⟨f, fd, as.map (·.arg), h1, F.kp, F.bindsN fun kV doc pm an cdv ct us hl => bind_plain (by have q := S.nd; rw [← S.pre]; exact q.sublist (List.take_sublist _ _)) kV doc pm an cdv ct us hl, ⟨fun vs H Q E q => ?_, fun A outer s H args us vs Q E _ _ _ _ q => ?_⟩⟩
      · obtain ⟨_, _, _, _, _, _, _, _, _, _, _, _, z⟩ := q; exact z.elim
      · obtain ⟨_, _, _, _, _, _, _, _, _, _, _, _, z⟩ := q; exact z.elim
    · obtain ⟨h1, f, M⟩ := Z.inis k i h
      obtain ⟨f2, fd, q0, N, as, body, scope, d, ss, h1, F, S, e1, e2, e3, e4, e5, e0, h2⟩ := Z.mths k _ i h1
      exact ⟨f, fd, as.map (·.arg), M, by
        have e : f = f2 := by
          have a := M.init
          rw [h1.at_] at a
          injection a with a
          injection a with a
          injection a with a
          exact a.symm
        subst e
        exact F.bindsN fun kV doc pm an cdv ct us hl => bind_plain (by have q := S.nd; rw [← S.pre]; exact q.sublist (List.take_sublist _ _)) kV doc pm an cdv ct us hl, spM_bad fun ds => rfl⟩
  | n + 1 => by
    obtain ⟨A, B⟩ := fn_all2 Z sr n
    refine ⟨⟨fun x i h => ?_, fun k m i h => ?_, fun x i h => ?_, fun k i h => ?_⟩, fun m h => by
      have e : n = m := by omega
      subst e
      exact A⟩
    · obtain ⟨f, fd, N, as, body, scope, d, y, h1, F, S, e1, e5, e2, e3, e4, h2⟩ := Z.fns x i h
      exact ⟨f, fd, as.map (·.arg), h1, F.kp, F.bindsN fun kV doc pm an cdv ct us hl => bind_plain (by have q := S.nd; rw [← S.pre]; exact q.sublist (List.take_sublist _ _)) kV doc pm an cdv ct us hl, fn_one Z sr A.f A.m A.i A.l F S e1 e5 e2 e3 e4 h2⟩
    · obtain ⟨f, fd, ps, a1, a2, a3, _⟩ := mth_next Z sr A B h
      exact ⟨f, fd, ps, a1, a2, a3⟩
    · obtain ⟨f, fd, N, as, body, scope, d, ss, y, h1, F, S, e1, e2, e3, e4, e6, e0, h2⟩ := Z.lfs x i h
      exact ⟨f, fd, as.map (·.arg), h1, F.kp, F.bindsN fun kV doc pm an cdv ct us hl => bind_plain (by have q := S.nd; rw [← S.pre]; exact q.sublist (List.take_sublist _ _)) kV doc pm an cdv ct us hl, lst_one Z sr A.f A.m A.i A.l F S e1 (by unfold Def.ini; rw [e0]) e2 e3 e4 e6 e0 h2⟩
    · obtain ⟨h1, f, M⟩ := Z.inis k i h
      obtain ⟨f2, fd, ps, m1, m2, _, m3⟩ := mth_next Z sr A B h1
      have e : f = f2 := by
        have a := M.init
        rw [m1.at_] at a
        injection a with a
        injection a with a
        injection a with a
        exact a.symm
      subst e
      exact ⟨f, fd, ps, M, m2, m3 rfl⟩
theorem fn_all (Z : Wd T g ex ca P K mg w) (sr : base.NoSeer) (n : Nat) : All3 T g ca P w K mg base n := (fn_all2 Z sr n).1
end
end Cw

set_option Elab.async false
set_option linter.all false
set_option maxRecDepth 100000
set_option maxHeartbeats 4000000
namespace Cw
open PySem PySem.Spec PyProof.Rows L2

/-! ### the end: the law's def is called with the script -/
section
variable {P : Program} {w : World} {K : PySem.W.Frag} {mg mb : Str → Option Value} {k : Nat} {fa a : Addr} {fd : FuncData} {x : Str} {sp : Sp} {s : Shared} {vs : List Value} {ns : List Int}
/-- what is tracked at first: the script, if it is no object of the text's own -/
def atFirst (K : PySem.W.Frag) (a : Addr) (o : Obj) (xs : List V) : Hp := fun b => if b = a then (match K.lookup a with | none => some (.frz o (.lst xs)) | some _ => none) else none
theorem atFirst_at {o : Obj} {xs : List V} {b : Addr} {u : HO} (e : atFirst K a o xs b = some u) : b = a ∧ K.lookup a = none ∧ u = .frz o (.lst xs) := by
  unfold atFirst at e
  by_cases z : b = a
  · rw [if_pos z] at e
    cases q : K.lookup a with
    | none => rw [q] at e; cases e; exact ⟨z, rfl, rfl⟩
    | some y => rw [q] at e; cases e
  · rw [if_neg z] at e; cases e
theorem law_run (KX : K.In s.heap) (h1 : s.heap.Ns mainGlobals mg) (h2 : s.heap.Ns builtinsNs mb) (h3 : ∀ z : Str, z ≠ "__name__" → mb z = bootBuiltins z) (h4 : s.heap.NoLimit) (h5 : s.heap.NoSeer) (h6 : s.gens = #[])
    (h7 : s.heap.get? a = some { cls := .type "list", data := .seq vs.toArray }) (h8 : IntsAre vs ns) (h9 : ns.length ≤ sizeLine) (hr : Room k callerA)
    (F : ∀ B : Heap, B.NoSeer → FnOk P w K mg B (L2N.CX P w) k fa fd [x] sp) (hb : ∀ (t : Shared) (u : Value), BindsTo t fd ⟨[u], []⟩ [(x, u)])
    (hsp : ∀ H : Hp, SqL K H a (ns.map V.int) → sp [.ref a] H (fun v _ => v = .bl true) fun _ _ _ => False) :
    codeAny (model P w) callerA (.call (.ref fa) ⟨[.ref a], []⟩) (fun r t => r = .ok (.ret (.bool true)) ∧ OldK s.heap t.heap ∧ t.os = s.os ∧ AllBare t.gens) s := by
  generalize ho : ({ cls := .type "list", data := .seq vs.toArray } : Obj) = o at h7
  generalize hH : atFirst K a o (ns.map V.int) = H
  have lenV := h8.length
  have inH : ∀ {b : Addr} {u : HO}, H b = some u → b = a ∧ K.lookup a = none ∧ u = .frz o (.lst (ns.map V.int)) := fun {b u} e => by
    rw [← hH] at e; exact atFirst_at e
  have lo : ∀ {P2 : Program} {w2 : World}, ObjOk P2 w2 H s.heap a (.lst (ns.map V.int)) := by
    intro P2 w2
    refine ⟨by rw [List.length_map]; exact h9, vs, 0, vals_ints h8, ?_⟩
    rw [h7, ← ho]
  have ok : HOk P w H s.heap := fun b u e => by
    obtain ⟨z, _, z2⟩ := inH e
    subst z z2
    exact ⟨h7, lo⟩
  have far : ∀ {b : Addr} {q : Obj}, s.heap.get? b = some q → (∀ i n, q.data ≠ .seq i n) → H b = none := fun {b q} e nq => by
    cases c : H b with
    | none => rfl
    | some u =>
      obtain ⟨z, _, _⟩ := inH c
      subst z
      rw [h7] at e
      cases e
      rw [← ho] at nq
      exact (nq _ _ rfl).elim
  have nsB : ∀ {b : Addr} {m : Str → Option Value}, s.heap.Ns b m → (hidT s.heap H).Ns b m := fun {b m} q => by
    obtain ⟨d, es, ep, e, dd, rest⟩ := q
    exact ⟨d, es, ep, hidT_get e (far e fun i n z => by rw [dd] at z; cases z), dd, rest⟩
  have inB : K.In (hidT s.heap H) := fun b q e => hidT_get (KX b q e) (by
    cases c : H b with
    | none => rfl
    | some u =>
      obtain ⟨z, z1, _⟩ := inH c
      subst z
      rw [z1] at e; cases e)
  have sr : (hidT s.heap H).NoSeer := by
    obtain ⟨⟨m1, a1, a2⟩, ⟨m2, b1, b2⟩, ⟨m3, c1, c2⟩, ⟨m4, bm, ob, d1, d2, d3, d4, d5⟩⟩ := h5
    refine ⟨⟨m1, nsB a1, a2⟩, ⟨m2, nsB b1, b2⟩, ⟨m3, nsB c1, c2⟩, ⟨m4, bm, ob, nsB d1, d2, ?_, d4, d5⟩⟩
    refine hidT_get d3 ?_
    cases c : H bm with
    | none => rfl
    | some u =>
      obtain ⟨z, _, _⟩ := inH c
      subst z
      rw [h7, ← ho] at d3
      cases d3
      simp at d4
  have lim : (hidT s.heap H).NoLimit := by
    obtain ⟨m1, a1, a2⟩ := h4
    exact ⟨m1, nsB a1, a2⟩
  have E0 : Env0 P w K mg (hidT s.heap H) callerA [] s H := ⟨rfl, ⟨inB, nsB h1, ⟨mb, nsB h2, h3⟩, lim⟩, fun b q e => of_hidT e, Nat.le_of_eq (hidT_size _ _), trivial, (fun b z => absurd (show b ∈ ([] : List Addr) from z) (by simp)), ok, .of_eq h6⟩
  have sq : SqL K H a (ns.map V.int) := by
    cases c : K.lookup a with
    | none => exact .inl (.inr ⟨o, by rw [← hH]; unfold atFirst; rw [if_pos rfl, c]⟩)
    | some q =>
      have e := KX a q c
      rw [h7] at e
      cases e
      rw [← ho] at c
      exact .inr ⟨_, vs.toArray, _, c, rfl, rfl, rfl, by rw [List.size_toArray, lenV]; exact h9, by simpa using vals_ints h8⟩
  refine codeAny_mono ((F _ sr).run callerA [] s H ⟨[.ref a], []⟩ [.ref a] [.ref a] _ _ hr E0 (hb s (.ref a)) (.cons rfl .nil) (hsp H sq)) fun r t q => ?_
  cases r with
  | error e =>
    obtain ⟨_, _, _, _, _, _, _, _, _, _, _, _, z⟩ := (show L2N.CX P w [] H s (fun _ _ _ => False) e t from q)
    exact z.elim
  | ok fl =>
    cases fl with
    | ret u =>
      obtain ⟨v, H', os, bare, un, ok', rr, z⟩ := q
      have z2 : v = .bl true := z
      subst z2
      have z3 : u = Value.bool true := rr
      subst z3
      refine ⟨rfl, OldK.of_keep fun b q e => ?_, os, bare⟩
      cases c : H b with
      | none => exact un.keep b q e c (fun y => absurd (show b ∈ ([] : List Addr) from y) (by simp)) (by simp)
      | some u =>
        obtain ⟨y, _, y2⟩ := inH c
        subst y y2
        have y3 := un.frzs b o _ c
        have y4 := (ok' b _ y3).1
        rw [h7] at e
        cases e
        exact y4
    | _ => exact q.elim
end

/-- over a head by facts -/
theorem walk_fin {l : PySem.W.OpenLaw} {n k : Nat} {q : Program} {loose : List Str} {XP : (Str → Option Value) → Heap → Prop} {YP : World → Heap → Prop} {d : DefRec} {x : Str}
    (hn : l.most = some n) (hn2 : n ≤ sizeLine) (hdf : d.params.defaults = []) (hr : Room k callerA) (him : importsNone q = true)
    (F : ∀ (w : World) (mg : Str → Option Value) (f : Addr) (h : Heap), YP w h → h.Ns mainGlobals mg → mg d.name = some (.ref f) →
      ∃ (K : PySem.W.Frag) (fd : FuncData) (sp : Sp), K.In h ∧ (∀ (s : Shared) (u : Value), BindsTo s fd ⟨[u], []⟩ [(x, u)]) ∧
        (∀ (H : Hp) (a : Addr) (ns : List Int), ns.length ≤ n → SqL K H a (ns.map V.int) → sp [.ref a] H (fun v _ => v = .bl true) fun _ _ _ => False) ∧
        ∀ B : Heap, B.NoSeer → FnOk l.prog w K mg B (L2N.CX l.prog w) k f fd [x] sp) :
    PySem.W.WalkO q loose XP YP l.row.toRowW d [] (fun f us => PySem.call f us) :=
  Att.attach_call hn hdf fun w s0 s mg mb f o pm cd doc a us ns G Y ho hd hcd hmg hobj hints hlen hg => by
    obtain ⟨K, fd, sp, KX, hb, hsp, hF⟩ := F w mg f _ Y G.T.g hmg
    exact law_run KX G.T.g G.T.b G.T.builtins G.T.nolimit (G.T.seer him) hg hobj hints (Nat.le_trans hlen hn2) hr hF hb fun H sq => hsp H a ns hlen sq

/-! ### the facts of a text, by a look at what the top has left -/
/-- one def: its name, its number, its slots -/
structure Ent where
  name : Str
  num : Nat
  N : List Str
  st : Stmt
  ln : Bool := false
  own : Option Str := none
/-- the def's own name; `name` is what the module calls it -/
def Ent.fn (e : Ent) : Str := e.own.getD e.name
def Ent.defdW (e : Ent) : He.DefD := ⟨(e.name, none), e.name, e.name, defArgs e.st, defBody e.st, defScope e.st, [], []⟩
def Ent.defd (e : Ent) : He.DefD := ⟨(e.name, none), e.fn, e.fn, defArgs e.st, defBody e.st, defScope e.st, [], []⟩
def scopeB (N ps : List Str) (sc : Scope) : Bool :=
  (match sc.kind with | .function => true | _ => false) && !sc.isCoroutine && !sc.isGenerator && decide N.Nodup && decide (N.take ps.length = ps) && (ps.all fun y => decide (sc.names.lookup y = some .local) || decide (sc.names.lookup y = some .cell)) && (sc.names.all fun y => !decide (y.2 = .free))
theorem scopeB_ok {N ps : List Str} {sc : Scope} (h : scopeB N ps sc = true) : FnScope N ps sc := by
  unfold scopeB at h
  simp only [Bool.and_eq_true, decide_eq_true_eq, Bool.not_eq_true', List.all_eq_true, Bool.or_eq_true, decide_eq_false_iff_not] at h
  obtain ⟨⟨⟨⟨⟨⟨h1, h2⟩, h3⟩, h4⟩, h5⟩, h6⟩, h7⟩ := h
  refine ⟨?_, h2, h3, h4, h5, h6, h7⟩
  split at h1
  · assumption
  · cases h1
def plainArgs : Arguments → Option (List Arg)
  | ⟨[], as, none, [], [], none, []⟩ => some as
  | _ => none
def Ent.look (T : Nat → Option Def) (g : Gm) (ex : List Str) (e : Ent) : Bool := match plainArgs (defArgs e.st), T e.num with
  | some as, some d => scopeB e.N (as.map (·.arg)) (defScope e.st) && decide (d.ps = as.length) && decide (d.sl = e.N.length) && decide (as.length ≤ e.N.length) && (if e.ln = true then decide (as.length = 2) && (match d.body with
    | .cons (.selfL k) ss => decide (k = 1) && chkSs g ex ss ⟨e.N, defScope e.st, fun _ => true, true, true⟩ (defBody e.st)
    | _ => false) else !d.ini && chkSs g ex d.body ⟨e.N, defScope e.st, fun _ => true, true, false⟩ (defBody e.st))
  | _, _ => false
theorem Ent.fact {T : Nat → Option Def} {g : Gm} {ex : List Str} {e : Ent} {K : PySem.W.Frag} {mg : Str → Option Value} {f : Addr} {fd : FuncData} (h : e.look T g ex = true) (hln : e.ln = false) (hm : mg e.name = some (.ref f)) (F : FunD K e.fn e.fn (defArgs e.st) (defBody e.st) (defScope e.st) [] [] f fd) :
    ∃ f fd N as body scope d y, mg e.name = some (.ref f) ∧ FunD K y y ⟨[], as, none, [], [], none, []⟩ body scope [] [] f fd ∧ FnScope N (as.map (·.arg)) scope ∧ T e.num = some d ∧ d.ini = false ∧ d.ps = as.length ∧ d.sl = N.length ∧ as.length ≤ N.length ∧ chkSs g ex d.body ⟨N, scope, fun _ => true, true, false⟩ body = true := by
  unfold Ent.look at h
  cases q : plainArgs (defArgs e.st) with
  | none => rw [q] at h; cases h
  | some as =>
    rw [q] at h
    cases q2 : T e.num with
    | none => rw [q2] at h; cases h
    | some d =>
      rw [q2] at h
      simp only [Bool.and_eq_true, decide_eq_true_eq] at h
      obtain ⟨⟨⟨⟨h1, h2⟩, h3⟩, h4⟩, h5⟩ := h
      rw [hln, if_neg Bool.false_ne_true, Bool.and_eq_true, Bool.not_eq_true'] at h5
      obtain ⟨h6, h5⟩ := h5
      have ea : defArgs e.st = ⟨[], as, none, [], [], none, []⟩ := by
        unfold plainArgs at q
        split at q
        · rename_i heq; cases q; exact heq
        · cases q
      rw [ea] at F
      exact ⟨f, fd, e.N, as, _, _, d, _, hm, F, scopeB_ok h1, rfl, h6, h2, h3, h4, h5⟩

theorem Ent.factL {T : Nat → Option Def} {g : Gm} {ex : List Str} {e : Ent} {K : PySem.W.Frag} {mg : Str → Option Value} {f : Addr} {fd : FuncData} (h : e.look T g ex = true) (hln : e.ln = true) (hm : mg e.name = some (.ref f)) (F : FunD K e.fn e.fn (defArgs e.st) (defBody e.st) (defScope e.st) [] [] f fd) :
    ∃ f fd N as body scope d ss y, mg e.name = some (.ref f) ∧ FunD K y y ⟨[], as, none, [], [], none, []⟩ body scope [] [] f fd ∧ FnScope N (as.map (·.arg)) scope ∧ T e.num = some d ∧ d.ps = as.length ∧ d.sl = N.length ∧ as.length ≤ N.length ∧ as.length = 2 ∧ d.body = .cons (.selfL 1) ss ∧ chkSs g ex ss ⟨N, scope, fun _ => true, true, true⟩ body = true := by
  unfold Ent.look at h
  cases q : plainArgs (defArgs e.st) with
  | none => rw [q] at h; cases h
  | some as =>
    rw [q] at h
    cases q2 : T e.num with
    | none => rw [q2] at h; cases h
    | some d =>
      rw [q2] at h
      simp only [Bool.and_eq_true, decide_eq_true_eq] at h
      obtain ⟨⟨⟨⟨h1, h2⟩, h3⟩, h4⟩, h5⟩ := h
      rw [hln, if_pos rfl, Bool.and_eq_true, decide_eq_true_eq] at h5
      obtain ⟨h6, h5⟩ := h5
      have ea : defArgs e.st = ⟨[], as, none, [], [], none, []⟩ := by
        unfold plainArgs at q
        split at q
        · rename_i heq; cases q; exact heq
        · cases q
      rw [ea] at F
      split at h5
      · rename_i k ss eb
        rw [Bool.and_eq_true, decide_eq_true_eq] at h5
        obtain ⟨h5, h7⟩ := h5
        subst h5
        exact ⟨f, fd, e.N, as, _, _, d, ss, _, hm, F, scopeB_ok h1, rfl, h2, h3, h4, h6, eb, h7⟩
      · cases h5

/-- the datum a module's constant holds, looked up in K: flat items, tuples of such, and so on -/
def relD (K : PySem.W.Frag) : Nat → Value → D → Bool
  | 0, u, d => (match u, d with
    | .none, .none => true
    | .bool b, .bool c => decide (b = c)
    | .int b _, .int c => decide (b = c)
    | .str b _, .str c => decide (b = c)
    | _, _ => false)
  | k + 1, u, d => (match u, d with
    | .ref a, .tuple ds => (match K.lookup a with
      | some ⟨.type c, _, .seq its _, _⟩ => decide (c = "tuple") && decide (its.size ≤ sizeLine) && decide (its.size = ds.length) && (its.toList.zip ds).all fun p => relD K k p.1 p.2
      | _ => false)
    | u, d => relD K k u d)
theorem relD_ok {K : PySem.W.Frag} : ∀ {n : Nat} {u : Value} {d : D}, relD K n u d = true → ∃ v, RelV v u ∧ ∀ H, Dp K H v d
  | 0, u, d, h => by
    unfold relD at h
    split at h
    · exact ⟨.non, rfl, fun _ => .non⟩
    · rename_i b c; have e : b = c := of_decide_eq_true h; subst e; exact ⟨.bl b, rfl, fun _ => .bl _⟩
    · rename_i b t c; have e : b = c := of_decide_eq_true h; subst e; exact ⟨.int b, ⟨_, rfl⟩, fun _ => .int _⟩
    · rename_i b t c; have e : b = c := of_decide_eq_true h; subst e; exact ⟨.str b, ⟨_, rfl⟩, fun _ => .str _⟩
    · cases h
  | k + 1, u, d, h => by
    unfold relD at h
    split at h
    · split at h
      · rename_i a ds _ c dd its nn sl q
        simp only [Bool.and_eq_true, decide_eq_true_eq] at h
        obtain ⟨⟨⟨h1, h2⟩, h3⟩, h4⟩ := h
        subst h1
        have key : ∀ (us : List Value) (es : List D), us.length = es.length → ((us.zip es).all fun p => relD K k p.1 p.2) = true → ∃ vs, Vals vs us ∧ ∀ H, DpAll K H vs es := by
          intro us
          induction us with
          | nil => intro es hl _; cases es with
            | nil => exact ⟨[], .nil, fun _ => .nil⟩
            | cons _ _ => cases hl
          | cons u us ih => intro es hl ha; cases es with
            | nil => cases hl
            | cons e es =>
              rw [List.zip_cons_cons, List.all_cons, Bool.and_eq_true] at ha
              obtain ⟨v, v1, v2⟩ := relD_ok ha.1
              obtain ⟨vs, w1, w2⟩ := ih es (by simpa using hl) ha.2
              exact ⟨v :: vs, .cons v1 w1, fun H => .cons (v2 H) (w2 H)⟩
        obtain ⟨vs, w1, w2⟩ := key its.toList ds (by simpa using h3) h4
        exact ⟨.ref a, rfl, fun H => .tup (.inr ⟨_, its, nn, q, rfl, rfl, h2, w1⟩) (w2 H)⟩
      · cases h
    · exact relD_ok h
def conB (K : PySem.W.Frag) (x : Str) (d : D) : Bool := match PySem.W.nsIn K mainGlobals x with
  | some (some u) => relD K 3 u d
  | _ => false
theorem conB_ok {K : PySem.W.Frag} {h : Heap} {mg : Str → Option Value} {x : Str} {d : D} (X : K.In h) (G : h.Ns mainGlobals mg) (c : conB K x d = true) : ∃ u v, mg x = some u ∧ RelV v u ∧ ∀ H, Dp K H v d := by
  unfold conB at c
  cases q : PySem.W.nsIn K mainGlobals x with
  | none => rw [q] at c; cases c
  | some z =>
    rw [q] at c
    cases z with
    | none => cases c
    | some u =>
      obtain ⟨v, v1, v2⟩ := relD_ok c
      exact ⟨u, v, PySem.W.mg_of X G q, v1, v2⟩

/-! ### a whole law -/
/-- what an own class of exceptions must say, so that isinstance asks its instances rightly -/
def excB (K : PySem.W.Frag) (D : Addr) : Bool :=
  He.eqO (PySem.W.findIn K (.ref D) "__getattribute__") (some (some (.builtin "BaseException.__getattribute__"))) && He.eqO (PySem.W.findIn K (.ref D) "__getattr__") (some none) && decide (PySem.W.subIn K (.ref D) (.type "BaseException") = some true) && PySem.W.hasDictIn K D &&
  He.eqO (PySem.W.findIn K (.ref D) "__class__") (some (some (.builtin "object.__class__"))) && He.eqO (PySem.W.specialIn K (.builtin "object.__class__") "__get__") (some (some (.builtin "getset_descriptor.__get__"))) && decide (PySem.W.takesIn K (.builtin "object.__class__") = some true) && decide (PySem.W.mroIn K D (.type "object") = some true)
theorem excB_ok {K : PySem.W.Frag} {D : Addr} (h : excB K D = true) : ExcC K D := by
  unfold excB at h
  simp only [Bool.and_eq_true, decide_eq_true_eq] at h
  obtain ⟨⟨⟨⟨⟨⟨⟨h1, h2⟩, h3⟩, h4⟩, h5⟩, h6⟩, h7⟩, h8⟩ := h
  exact ⟨He.eqO_ok h1, He.eqO_ok h2, h3, h4, He.eqO_ok h5, He.eqO_ok h6, h7, h8⟩
/-- one method: its class, its name, its number, its slots -/
structure Mth where
  k : Nat
  name : Str
  qual : Str
  num : Nat
  N : List Str
  st : Stmt
def Mth.defd (m : Mth) : He.DefD := ⟨(clsN m.k, some m.name), m.name, m.qual, defArgs m.st, defBody m.st, defScope m.st, [], []⟩
def Mth.look (T : Nat → Option Def) (g : Gm) (ex : List Str) (m : Mth) : Bool := match plainArgs (defArgs m.st), T m.num with
  | some as, some d => scopeB m.N (as.map (·.arg)) (defScope m.st) && decide (d.ps = as.length) && decide (d.sl = m.N.length) && decide (as.length ≤ m.N.length) && (match d.body with
    | .cons (.self k) ss => decide (k = m.k) && !decide (m.name = ("__init__" : Str)) && chkSsM g ex ss ⟨m.N, defScope m.st, fun _ => true, true, true⟩ (defBody m.st) && !isDk k
    | .cons (.selfI k) ss => decide (k = m.k) && decide (m.name = ("__init__" : Str)) && chkSsM g ex ss ⟨m.N, defScope m.st, fun _ => true, true, true⟩ (defBody m.st) && !isDk k
    | .cons (.keep ini k ss) .nil => decide (k = m.k) && decide (ini = decide (m.name = ("__init__" : Str))) && chkSsM g ex ss ⟨m.N, defScope m.st, fun _ => true, true, true⟩ (defBody m.st) && isDk k
    | _ => false)
  | _, _ => false
theorem Mth.fact {T : Nat → Option Def} {g : Gm} {ex : List Str} {m : Mth} {K : PySem.W.Frag} {f : Addr} {fd : FuncData} (h : m.look T g ex = true) (hm : Meth K (clsA K m.k) m.name f) (F : FunD K m.name m.qual (defArgs m.st) (defBody m.st) (defScope m.st) [] [] f fd) :
    ∃ f fd q N as body scope d ss, Meth K (clsA K m.k) m.name f ∧ FunD K m.name q ⟨[], as, none, [], [], none, []⟩ body scope [] [] f fd ∧ FnScope N (as.map (·.arg)) scope ∧ T m.num = some d ∧ d.ps = as.length ∧ d.sl = N.length ∧ as.length ≤ N.length ∧ (d.ini = decide (m.name = ("__init__" : Str))) ∧ bodyM m.k ss d.body ∧ chkSsM g ex ss ⟨N, scope, fun _ => true, true, true⟩ body = true := by
  unfold Mth.look at h
  cases q : plainArgs (defArgs m.st) with
  | none => rw [q] at h; cases h
  | some as =>
    rw [q] at h
    cases q2 : T m.num with
    | none => rw [q2] at h; cases h
    | some d =>
      rw [q2] at h
      simp only [Bool.and_eq_true, decide_eq_true_eq] at h
      obtain ⟨⟨⟨⟨h1, h2⟩, h3⟩, h4⟩, h5⟩ := h
      have ea : defArgs m.st = ⟨[], as, none, [], [], none, []⟩ := by
        unfold plainArgs at q
        split at q
        · rename_i heq; cases q; exact heq
        · cases q
      rw [ea] at F
      split at h5
      · rename_i k ss eb
        simp only [Bool.and_eq_true, decide_eq_true_eq, Bool.not_eq_true', decide_eq_false_iff_not] at h5
        obtain ⟨⟨⟨h5, h7⟩, h6⟩, nk⟩ := h5
        subst h5
        exact ⟨f, fd, m.qual, m.N, as, _, _, d, ss, hm, F, scopeB_ok h1, rfl, h2, h3, h4, by rw [decide_eq_false h7]; unfold Def.ini; rw [eb], .inl ⟨nk, .inl eb⟩, h6⟩
      · rename_i k ss eb
        simp only [Bool.and_eq_true, decide_eq_true_eq, Bool.not_eq_true'] at h5
        obtain ⟨⟨⟨h5, h7⟩, h6⟩, nk⟩ := h5
        subst h5
        exact ⟨f, fd, m.qual, m.N, as, _, _, d, ss, hm, F, scopeB_ok h1, rfl, h2, h3, h4, by rw [decide_eq_true h7]; unfold Def.ini; rw [eb], .inl ⟨nk, .inr eb⟩, h6⟩
      · rename_i ini k ss eb
        simp only [Bool.and_eq_true, decide_eq_true_eq] at h5
        obtain ⟨⟨⟨h5, h7⟩, h6⟩, nk⟩ := h5
        subst h5
        exact ⟨f, fd, m.qual, m.N, as, _, _, d, ss, hm, F, scopeB_ok h1, rfl, h2, h3, h4, by rw [← h7]; unfold Def.ini; rw [eb]; cases ini <;> rfl, .inr ⟨nk, ini, eb⟩, h6⟩
      · cases h5
structure Txt where
  ents : List Ent
  cons : List (Str × Nat)
  ex : List Str
  wrds : List Ent
  dcts : List (Str × Nat) := []
  clss : List Nat := []
  mths : List Mth := []
  dvs : List (Str × Nat) := []
  rfd : Bool := false
  rst : List (Str × Stmt) := []
def Txt.gm (t : Txt) : Gm := ⟨(t.ents.filter fun e => !e.ln).map fun e => (e.name, e.num), t.cons, t.wrds.map fun e => (e.name, e.num), t.dcts, t.clss, t.mths.map fun m => (m.k, m.name, m.num), (t.mths.filter fun m => decide (m.name = ("__init__" : Str)) && t.clss.contains m.k).map fun m => (m.k, m.num), (t.ents.filter fun e => e.ln).map fun e => (e.name, e.num), t.dvs, t.rfd⟩
def dctK : Nat → List Str
  | 0 => ["sum", "less", "times", "over"]
  | _ => []
def Txt.ts (t : Txt) : List He.Tab := (t.dcts.map fun p => (fun K => He.ga K p.1, dctK p.2)) ++ t.dvs.map fun p => (fun K => He.ga K p.1, (dctV p.2).map (·.1))
def strKV : Value → Option Str
  | .str z _ => some z
  | _ => none
def dvB (K : PySem.W.Frag) (p : Str × Nat) : Bool := (He.Fa.glo p.1).ok K && (match K.lookup (He.ga K p.1) with
  | some ⟨_, _, .dict es _, _⟩ => decide (es.toList.map (fun e => (strKV e.key, strKV e.val)) = (dctV p.2).map fun q => (some q.1, some q.2))
  | _ => false)
def dctB (K : PySem.W.Frag) (p : Str × Nat) : Bool := (He.Fa.glo p.1).ok K && (dctT p.2).all fun q => (match PySem.W.nsIn K (He.ga K p.1) q.1 with
  | some r => decide (r.isSome = q.2)
  | none => false)
theorem dv_find {z : Str} : ∀ {l : List DictEntry} {t : List (Str × Str)}, l.map (fun e => (strKV e.key, strKV e.val)) = t.map (fun q => (some q.1, some q.2)) →
    ∃ r, (match l.find? (·.key.isStr z) with
      | some e => some (some e.val)
      | none => if l.any (·.refKey) then none else some none) = some r ∧ r.isSome = (t.lookup z).isSome ∧ ∀ s, t.lookup z = some s → ∃ tk, r = some (.str s tk)
  | [], [], _ => ⟨none, rfl, rfl, fun s h => by cases h⟩
  | [], _ :: _, h => by cases h
  | _ :: _, [], h => by cases h
  | e :: l, q :: t, h => by
    rw [List.map_cons, List.map_cons, List.cons.injEq, Prod.mk.injEq] at h
    obtain ⟨⟨h1, h2⟩, h3⟩ := h
    obtain ⟨r, r1, r2, r3⟩ := dv_find (z := z) h3
    have hk : ∃ tk, e.key = .str q.1 tk := by
      unfold strKV at h1
      split at h1
      · rename_i a b he; cases h1; exact ⟨_, he⟩
      · cases h1
    have hv : ∃ tk, e.val = .str q.2 tk := by
      unfold strKV at h2
      split at h2
      · rename_i a b he; cases h2; exact ⟨_, he⟩
      · cases h2
    obtain ⟨tk, hk⟩ := hk
    obtain ⟨tv, hv⟩ := hv
    have hr : e.refKey = false := by
      unfold DictEntry.refKey
      rw [hk]
    by_cases hz : q.1 = z
    · have e1 : e.key.isStr z = true := by rw [hk, hz]; simp [Value.isStr]
      refine ⟨some e.val, ?_, ?_, fun s hs => ?_⟩
      · rw [List.find?_cons, e1]
      · have : (z == q.1) = true := by rw [hz]; simp
        rw [List.lookup_cons, this]; rfl
      · have : (z == q.1) = true := by rw [hz]; simp
        rw [List.lookup_cons, this] at hs
        cases hs
        exact ⟨tv, by rw [hv]⟩
    · have e1 : e.key.isStr z = false := by rw [hk]; simp [Value.isStr]; first | exact hz | exact fun w => hz w
      have e2 : (z == q.1) = false := by
        rw [beq_eq_false_iff_ne]; exact fun w => hz w.symm
      refine ⟨r, ?_, ?_, fun s hs => ?_⟩
      · rw [List.find?_cons, e1, List.any_cons, hr, Bool.false_or]
        exact r1
      · rw [List.lookup_cons, e2]; exact r2
      · rw [List.lookup_cons, e2] at hs
        exact r3 s hs
def closeE : Str := "CloseError"
/-- the look at the defs that tell words -/
def Ent.lookW (ex : List Str) (e : Ent) : Bool := match plainArgs (defArgs e.st) with
  | some as => decide (as.map (·.arg) = (["e"] : List Str)) && scopeB (["e", wN e.num] : List Str) (["e"] : List Str) (defScope e.st) && wrdB e.num (defScope e.st) (defBody e.st) && (wtab e.num).all fun c => ex.contains c
  | none => false
def Txt.faW (t : Txt) : List He.Fa := (t.wrds.map fun e => .glo e.name) ++ (if t.wrds.isEmpty then [] else (.free "ValueError") :: ((closeE :: t.ex).map fun c => .exm c closeE true))
def Txt.faR (t : Txt) : List He.Fa := if t.rfd = true then [.glo refE, .meth refE "__init__", .exm refE refE true] ++ (closeE :: t.ex).map fun c => .exm c refE false else []
def Txt.faC (t : Txt) : List He.Fa := (t.clss.flatMap fun k => [He.Fa.glo (clsN k), .cls (clsN k), .mkr (clsN k)] ++ (clsF k).map fun f => .noat (clsN k) f) ++ ((t.mths.map fun m => .meth (clsN m.k) m.name) ++ t.faR)
def Txt.fa (t : Txt) : List He.Fa := t.faW ++ (((t.ents.map fun e => .glo e.name) ++ (blts.map fun x => .free x) ++ ((closeE :: t.ex).map fun x => .glo x) ++ (t.ex.map fun x => .exc x) ++ (t.ex.flatMap fun c => (closeE :: t.ex).map fun c2 => .exm c2 c (isSub c2 c))) ++ t.faC)
def Txt.fn (t : Txt) : List He.DefD := (t.wrds.map Ent.defdW ++ t.ents.map Ent.defd) ++ (t.mths.map Mth.defd ++ t.rst.map fun q => ⟨(refE, some "__init__"), "__init__", q.1, defArgs q.2, defBody q.2, defScope q.2, [], []⟩)
def Txt.xbW (t : Txt) (K : PySem.W.Frag) : Bool := t.wrds.all fun e => (closeE :: t.ex).all fun c => excB K (He.ga K c) && decide (PySem.W.kitOne K (.ref (He.ga K c)) (.type "ValueError") = some true) && (wtab e.num).all fun j => decide (PySem.W.kitOne K (.ref (He.ga K c)) (.ref (He.ga K j)) = some (isSub c j))
def Txt.xbR (t : Txt) : Bool := (t.ex.all fun c => !isRef c) && (!t.rfd || t.wrds.isEmpty)
def oexB (K : PySem.W.Frag) (C : Addr) : Bool := (match K.lookup C with
  | some ⟨.type "type", _, .cls cd, sl⟩ => (match cd.mro, sl.toList with
    | .ref C' :: bm, [_, _, _, _, some (.builtin n), _] => C' == C && n == "ValueError.__new__" && !cd.hasDel && cd.hasDict && PySem.HandSPX.refsVE bm
    | _, _ => false)
  | _ => false) && He.eqO (PySem.W.findIn K (.ref C) "__setattr__") (some (some (.builtin "object.__setattr__"))) && decide (PySem.W.subIn K (.ref C) (.type "BaseException") = some true) && decide (PySem.W.typeIn K (.ref C) = some (.type "type")) && PySem.W.keepIn K (.ref C)
theorem oexB_ok {K : PySem.W.Frag} {C : Addr} (h : oexB K C = true) : OexC K C := by
  unfold oexB at h
  simp only [Bool.and_eq_true, decide_eq_true_eq] at h
  obtain ⟨⟨⟨⟨h1, h2⟩, h3⟩, h4⟩, h5⟩ := h
  refine ⟨?_, He.eqO_ok h2, h3, h4, h5⟩
  split at h1
  · rename_i dd cd sl ho
    split at h1
    · rename_i C' bm k0 k1 k2 k3 n k5 hm hs
      simp only [Bool.and_eq_true, beq_iff_eq, Bool.not_eq_true'] at h1
      obtain ⟨⟨⟨⟨rfl, rfl⟩, hdel⟩, hd⟩, hr⟩ := h1
      obtain ⟨nm, bs, mro, ns, qn, hd', sn, sub, ab, col, del⟩ := cd
      dsimp only at hm hdel hd
      subst hm hdel hd
      have hsl : sl = #[k0, k1, k2, k3, some (.builtin "ValueError.__new__"), k5] := by
        obtain ⟨l⟩ := sl
        simp only at hs
        rw [hs]
      subst hsl
      exact ⟨_, _, _, _, _, _, _, _, _, _, _, _, _, _, _, ho, hr⟩
    · cases h1
  · cases h1
def Txt.xbF (t : Txt) (K : PySem.W.Frag) : Bool := oexB K (He.ga K refE) && xfB K (He.ga K refE) && He.eqO (PySem.W.findIn K (.ref (He.ga K refE)) "word") (some none) && (match t.rst with
  | [(_, st)] => (match plainArgs (defArgs st) with
    | some as => decide (as.map (·.arg) = (["self", "word"] : List Str)) && scopeB (["self", "word"] : List Str) (["self", "word"] : List Str) (defScope st) && refB (defScope st) (defBody st)
    | none => false)
  | _ => false)
def Txt.xb (t : Txt) (K : PySem.W.Frag) : Bool := (!t.rfd || t.xbF K) && (t.xbR && ((t.cons.all fun p => conB K p.1 (cst p.2)) && (t.xbW K && ((t.dcts.all fun p => dctB K p) && t.dvs.all fun p => dvB K p))))
def Txt.ca (t : Txt) (K : PySem.W.Frag) : Str → Value := fun c => .ref (He.ga K (if (t.rfd && isRef c) = true then refE else if t.ex.contains c then c else closeE))
def Txt.lawArg (t : Txt) (x : Str) : Bool := t.ents.all fun e => !decide (e.name = "law") || (match plainArgs (defArgs e.st) with | some [pa] => decide (pa.arg = x) | _ => false)
theorem lawArg_ok {t : Txt} {x : Str} (h : t.lawArg x = true) {e : Ent} (he : e ∈ t.ents) (hn : e.name = "law") : ∃ pa, plainArgs (defArgs e.st) = some [pa] ∧ pa.arg = x := by
  have z := List.all_eq_true.mp h e he
  rw [decide_eq_true hn, Bool.not_true, Bool.false_or] at z
  split at z
  · rename_i pa q
    exact ⟨pa, q, of_decide_eq_true z⟩
  · cases z
theorem isSub_other {c d : Str} (h : c ≠ d) (h2 : closeE ≠ d) : isSub c d = isSub closeE d := by
  unfold isSub
  rw [decide_eq_false h, decide_eq_false h2]
theorem txt_wd {t : Txt} {T : Nat → Option Def} {P : Program} {K : PySem.W.Frag} {h : Heap} {mg : Str → Option Value} {w : World} (X : K.In h) (G : h.Ns mainGlobals mg) (tree : P.given.tree = none) (lk : (t.ents.all fun e => e.look T t.gm t.ex) = true) (lkW : (t.wrds.all fun e => e.lookW t.ex) = true) (lkM : (t.mths.all fun m => m.look T t.gm t.ex) = true) (ct : He.SaysT t.fa t.fn t.ts w K) (xb : t.xb K = true) (ne : closeE ∉ t.ex) : Wd T t.gm t.ex (t.ca K) P K mg w := by
  have c : He.SaysD t.fa t.fn K := ct.d
  have factA : ∀ f ∈ t.fa, f.ok K = true := fun f hf => c.facts hf
  have fact : ∀ f ∈ (t.ents.map fun e => He.Fa.glo e.name) ++ (blts.map fun x => .free x) ++ ((closeE :: t.ex).map fun x => .glo x) ++ (t.ex.map fun x => .exc x) ++ (t.ex.flatMap fun c => (closeE :: t.ex).map fun c2 => .exm c2 c (isSub c2 c)), f.ok K = true := fun f hf => factA f (List.mem_append_right _ (List.mem_append_left _ hf))
  unfold Txt.xb at xb
  rw [Bool.and_eq_true] at xb
  obtain ⟨xf, xb⟩ := xb
  rw [Bool.and_eq_true] at xb
  obtain ⟨xr, xb⟩ := xb
  rw [Bool.and_eq_true] at xb
  obtain ⟨xb, xw⟩ := xb
  unfold Txt.xbR at xr
  rw [Bool.and_eq_true] at xr
  obtain ⟨xr1, xr2⟩ := xr
  have nrx : ∀ {c1 : Str}, c1 ∈ t.ex → (t.rfd && isRef c1) = false := fun {c1} hc => by
    have z := List.all_eq_true.mp xr1 c1 hc
    rw [Bool.not_eq_true'] at z
    rw [z, Bool.and_false]
  have nrn : ∀ {c1 : Str}, isRef c1 = false → (t.rfd && isRef c1) = false := fun {c1} z => by rw [z, Bool.and_false]
  have nrw : ∀ {c1 : Str}, t.wrds.isEmpty = false → (t.rfd && isRef c1) = false := fun {c1} z => by
    rw [z, Bool.or_false, Bool.not_eq_true'] at xr2
    rw [xr2, Bool.false_and]
  have caN : ∀ {c1 : Str}, (t.rfd && isRef c1) = false → t.ca K c1 = .ref (He.ga K (if t.ex.contains c1 then c1 else closeE)) := fun {c1} z => by
    unfold Txt.ca
    rw [z, if_neg Bool.false_ne_true]
  rw [Bool.and_eq_true] at xw
  obtain ⟨xw, xd⟩ := xw
  rw [Bool.and_eq_true] at xd
  obtain ⟨xd, xv⟩ := xd
  have caW : ∀ c1, (t.rfd && isRef c1) = false → ∃ c3 ∈ closeE :: t.ex, t.ca K c1 = .ref (He.ga K c3) ∧ ((c1 ∈ t.ex ∧ c3 = c1) ∨ (c1 ∉ t.ex ∧ c3 = closeE)) := fun c1 nr => by
    by_cases h2 : c1 ∈ t.ex
    · exact ⟨c1, List.mem_cons_of_mem _ h2, by rw [caN nr, List.contains_iff_mem.mpr h2, if_pos rfl], .inl ⟨h2, rfl⟩⟩
    · refine ⟨closeE, List.mem_cons_self, ?_, .inr ⟨h2, rfl⟩⟩
      rw [caN nr]
      have z : t.ex.contains c1 = false := by
        cases q : t.ex.contains c1 with
        | false => rfl
        | true => exact (h2 (List.contains_iff_mem.mp q)).elim
      rw [z, if_neg Bool.false_ne_true]
  refine ⟨tree, fun x hx => ?_, fun x j hx => ?_, fun c2 n2 c1 hc => ?_, fun c1 hc => ?_, fun x i hx => ?_, fun x k hx => ?_, fun hr => ?_, fun hw => ?_, fun x k hx c1 => ?_, fun k hk => ?_, fun k m i hx => ?_, fun k i hx => ?_, fun x i hx => ?_, fun x j hx => ?_, fun x j hx => ?_⟩
  · refine He.free_ok X G (fact _ ?_)
    simp only [List.mem_append, List.mem_map]
    exact .inl (.inl (.inl (.inr ⟨x, hx, rfl⟩)))
  · exact conB_ok X G (List.all_eq_true.mp xb (x, j) hx)
  · have key : ∀ c3 ∈ closeE :: t.ex, PySem.W.exmOne K (.ref (He.ga K c3)) (.ref (He.ga K c1)) = some (isSub c3 c1) := fun c3 h3 => by
      refine He.exm_ok (fact _ ?_)
      simp only [List.mem_append, List.mem_flatMap, List.mem_map]
      exact .inr ⟨c1, hc, c3, h3, rfl⟩
    have e1 : t.ca K c1 = .ref (He.ga K c1) := by rw [caN (nrx hc), List.contains_iff_mem.mpr hc, if_pos rfl]
    rw [e1]
    by_cases h2 : c2 ∈ t.ex
    · have e2 : t.ca K c2 = .ref (He.ga K c2) := by rw [caN (nrn n2), List.contains_iff_mem.mpr h2, if_pos rfl]
      rw [e2]
      exact key c2 (List.mem_cons_of_mem _ h2)
    · have e2 : t.ca K c2 = .ref (He.ga K closeE) := by
        rw [caN (nrn n2)]
        have z : t.ex.contains c2 = false := by
          cases q : t.ex.contains c2 with
          | false => rfl
          | true => exact (h2 (List.contains_iff_mem.mp q)).elim
        rw [z, if_neg Bool.false_ne_true]
      rw [e2, isSub_other (fun z => h2 (by rw [z]; exact hc)) (fun z => ne (by rw [z]; exact hc))]
      exact key closeE List.mem_cons_self
  · have e1 : t.ca K c1 = .ref (He.ga K c1) := by rw [caN (nrx hc), List.contains_iff_mem.mpr hc, if_pos rfl]
    have f1 : (He.Fa.glo c1).ok K = true := fact _ (by
      simp only [List.mem_append, List.mem_map]
      exact .inl (.inl (.inr ⟨c1, List.mem_cons_of_mem _ hc, rfl⟩)))
    have f2 : (He.Fa.exc c1).ok K = true := fact _ (by
      simp only [List.mem_append, List.mem_map]
      exact .inl (.inr ⟨c1, hc, rfl⟩))
    obtain ⟨a1, a2, a3, a4⟩ := He.exc_ok f2
    exact ⟨_, e1, He.glo_ok X G f1, a1, a2, a3, a4⟩
  · obtain ⟨e, he, q⟩ := List.mem_map.mp hx
    obtain ⟨he, hln⟩ := List.mem_filter.mp he
    rw [Bool.not_eq_true'] at hln
    cases q
    have f1 : (He.Fa.glo e.name).ok K = true := fact _ (by
      simp only [List.mem_append, List.mem_map]
      exact .inl (.inl (.inl (.inl ⟨e, he, rfl⟩))))
    obtain ⟨fd, F⟩ := c.defs (d := e.defd) (List.mem_append_left _ (List.mem_append_right _ (List.mem_map.mpr ⟨e, he, rfl⟩)))
    exact Ent.fact (List.all_eq_true.mp lk e he) hln (He.glo_ok X G f1) F
  · obtain ⟨e, he, q⟩ := List.mem_map.mp hx
    cases q
    have f1 : (He.Fa.glo e.name).ok K = true := factA _ (List.mem_append_left _ (List.mem_append_left _ (List.mem_map.mpr ⟨e, he, rfl⟩)))
    obtain ⟨fd, F⟩ := c.defs (d := e.defdW) (List.mem_append_left _ (List.mem_append_left _ (List.mem_map.mpr ⟨e, he, rfl⟩)))
    have z := List.all_eq_true.mp lkW e he
    unfold Ent.lookW at z
    cases q : plainArgs (defArgs e.st) with
    | none => rw [q] at z; cases z
    | some as =>
      rw [q] at z
      simp only [Bool.and_eq_true, decide_eq_true_eq] at z
      obtain ⟨⟨⟨z1, z2⟩, z3⟩, z4⟩ := z
      have ea : defArgs e.st = ⟨[], as, none, [], [], none, []⟩ := by
        unfold plainArgs at q
        split at q
        · rename_i heq; cases q; exact heq
        · cases q
      have F2 : FunD K e.name e.name ⟨[], as, none, [], [], none, []⟩ (defBody e.st) (defScope e.st) [] [] (He.fAd K (e.name, none)) fd := by
        rw [← ea]; exact F
      exact ⟨_, fd, as, _, _, He.glo_ok X G f1, F2, z1, scopeB_ok z2, z3⟩
  · have hr : t.rfd = true := hr
    rw [hr, Bool.not_true, Bool.false_or] at xf
    unfold Txt.xbF at xf
    simp only [Bool.and_eq_true] at xf
    obtain ⟨⟨⟨y1, y2⟩, y3⟩, y4⟩ := xf
    have inR : ∀ f ∈ [He.Fa.glo refE, .meth refE "__init__", .exm refE refE true] ++ (closeE :: t.ex).map fun c => He.Fa.exm c refE false, f.ok K = true := fun f hf => factA f (List.mem_append_right _ (List.mem_append_right _ (List.mem_append_right _ (List.mem_append_right _ (by
      unfold Txt.faR
      rw [if_pos hr]
      exact hf)))))
    have M := He.meth_ok (inR (.meth refE "__init__") (by simp))
    split at y4
    case h_2 => cases y4
    rename_i q0 st hst
    cases q : plainArgs (defArgs st) with
    | none => rw [q] at y4; cases y4
    | some as =>
      rw [q] at y4
      simp only [Bool.and_eq_true, decide_eq_true_eq] at y4
      obtain ⟨⟨z1, z2⟩, z3⟩ := y4
      have ea : defArgs st = ⟨[], as, none, [], [], none, []⟩ := by
        unfold plainArgs at q
        split at q
        · rename_i heq; cases q; exact heq
        · cases q
      obtain ⟨fd, F⟩ := c.defs (d := ⟨(refE, some "__init__"), "__init__", q0, defArgs st, defBody st, defScope st, [], []⟩) (List.mem_append_right _ (List.mem_append_right _ (by rw [hst]; exact List.mem_singleton.mpr rfl)))
      have F2 : FunD K ("__init__" : Str) q0 ⟨[], as, none, [], [], none, []⟩ (defBody st) (defScope st) [] [] (He.ma K (He.ga K refE) "__init__") fd := by
        rw [← ea]; exact F
      refine ⟨He.ga K refE, _, fd, q0, as, _, _, ⟨He.glo_ok X G (inR _ (by simp)), fun c1 h1 => ?_, oexB_ok y1, M.at_, beq_iff_eq.mp M.fn, xfB_ok y2, He.eqO_ok y3, He.exm_ok (inR (.exm refE refE true) (by simp)), fun c1 h1 => ?_⟩, F2, z1, by rw [z1]; exact scopeB_ok z2, z3⟩
      · unfold Txt.ca
        rw [hr, h1]; rfl
      · obtain ⟨c3, h3, e3, _⟩ := caW c1 (nrn h1)
        rw [e3]
        exact He.exm_ok (inR (.exm c3 refE false) (List.mem_append_right _ (List.mem_map.mpr ⟨c3, h3, rfl⟩)))
  · have hne : t.wrds.isEmpty = false := by
      cases q : t.wrds with
      | nil => exact (hw (by show t.wrds.map _ = []; rw [q]; rfl)).elim
      | cons _ _ => rfl
    have inW : ∀ f ∈ (He.Fa.free "ValueError") :: ((closeE :: t.ex).map fun c => He.Fa.exm c closeE true), f.ok K = true := fun f hf => factA f (List.mem_append_left _ (by
      unfold Txt.faW
      rw [hne]
      exact List.mem_append_right _ hf))
    refine ⟨He.free_ok X G (inW _ List.mem_cons_self), He.ga K closeE, ?_, fun c1 n1 => ?_⟩
    · exact He.glo_ok X G (fact _ (by
        simp only [List.mem_append, List.mem_map]
        exact .inl (.inl (.inr ⟨closeE, List.mem_cons_self, rfl⟩))))
    · obtain ⟨c3, h3, e3, _⟩ := caW c1 (nrn n1)
      rw [e3]
      exact He.exm_ok (inW _ (List.mem_cons_of_mem _ (List.mem_map.mpr ⟨c3, h3, rfl⟩)))
  · obtain ⟨e, he, q⟩ := List.mem_map.mp hx
    cases q
    have z := List.all_eq_true.mp lkW e he
    unfold Ent.lookW at z
    cases q : plainArgs (defArgs e.st) with
    | none => rw [q] at z; cases z
    | some as =>
      rw [q] at z
      simp only [Bool.and_eq_true, decide_eq_true_eq] at z
      obtain ⟨_, z4⟩ := z
      have hne : t.wrds.isEmpty = false := by
        cases q : t.wrds with
        | nil => rw [q] at he; cases he
        | cons _ _ => rfl
      obtain ⟨c3, h3, e3, hc3⟩ := caW c1 (nrw hne)
      have y := List.all_eq_true.mp (List.all_eq_true.mp xw e he) c3 h3
      simp only [Bool.and_eq_true, decide_eq_true_eq] at y
      obtain ⟨⟨y1, y2⟩, y3⟩ := y
      refine ⟨_, e3, excB_ok y1, y2, fun j hj => ?_⟩
      have jx : j ∈ t.ex := List.contains_iff_mem.mp (List.all_eq_true.mp z4 j hj)
      have y4 := of_decide_eq_true (List.all_eq_true.mp y3 j hj)
      refine ⟨He.ga K j, ?_, ?_⟩
      · exact He.glo_ok X G (fact _ (by
          simp only [List.mem_append, List.mem_map]
          exact .inl (.inl (.inr ⟨j, List.mem_cons_of_mem _ jx, rfl⟩))))
      · rw [y4]
        rcases hc3 with ⟨_, e⟩ | ⟨n1, e⟩
        · rw [e]
        · rw [e, isSub_other (c := c1) (fun w => n1 (by rw [w]; exact jx)) (fun w => ne (by rw [w]; exact jx))]
  · have fC : ∀ f ∈ [He.Fa.glo (clsN k), .cls (clsN k), .mkr (clsN k)] ++ (clsF k).map fun f => He.Fa.noat (clsN k) f, f.ok K = true := fun f hf => factA f (List.mem_append_right _ (List.mem_append_right _ (List.mem_append_left _ (List.mem_flatMap.mpr ⟨k, hk, hf⟩))))
    exact ⟨He.glo_ok X G (fC _ (by simp)), He.cls_ok (fC _ (by simp)), fun f hf => He.noat_ok (fC _ (List.mem_append_right _ (List.mem_map.mpr ⟨f, hf, rfl⟩)))⟩
  · obtain ⟨e, he, q⟩ := List.mem_map.mp hx
    cases q
    have f1 : (He.Fa.meth (clsN e.k) e.name).ok K = true := factA _ (List.mem_append_right _ (List.mem_append_right _ (List.mem_append_right _ (List.mem_append_left _ (List.mem_map.mpr ⟨e, he, rfl⟩)))))
    obtain ⟨fd, F⟩ := c.defs (d := e.defd) (List.mem_append_right _ (List.mem_append_left _ (List.mem_map.mpr ⟨e, he, rfl⟩)))
    exact Mth.fact (List.all_eq_true.mp lkM e he) (He.meth_ok f1) F
  · obtain ⟨e, he, q⟩ := List.mem_map.mp hx
    obtain ⟨he, hn⟩ := List.mem_filter.mp he
    rw [Bool.and_eq_true, decide_eq_true_eq] at hn
    obtain ⟨hn, hk⟩ := hn
    cases q
    have f1 : (He.Fa.mkr (clsN e.k)).ok K = true := factA _ (List.mem_append_right _ (List.mem_append_right _ (List.mem_append_left _ (List.mem_flatMap.mpr ⟨e.k, List.contains_iff_mem.mp hk, by simp⟩))))
    exact ⟨List.mem_map.mpr ⟨e, he, by rw [hn]⟩, _, He.mkr_ok f1⟩
  · obtain ⟨e, he, q⟩ := List.mem_map.mp hx
    obtain ⟨he, hln⟩ := List.mem_filter.mp he
    cases q
    have f1 : (He.Fa.glo e.name).ok K = true := fact _ (by
      simp only [List.mem_append, List.mem_map]
      exact .inl (.inl (.inl (.inl ⟨e, he, rfl⟩))))
    obtain ⟨fd, F⟩ := c.defs (d := e.defd) (List.mem_append_left _ (List.mem_append_right _ (List.mem_map.mpr ⟨e, he, rfl⟩)))
    exact Ent.factL (List.all_eq_true.mp lk e he) hln (He.glo_ok X G f1) F
  · have y := List.all_eq_true.mp xv (x, j) hx
    unfold dvB at y
    rw [Bool.and_eq_true] at y
    have hx' : (x, j) ∈ t.dvs := hx
    obtain ⟨i, hi, ei⟩ := List.mem_iff_getElem.mp hx'
    obtain ⟨es, m, kd⟩ := ct.tab (t.dcts.length + i) (t := (fun K => He.ga K x, (dctV j).map (·.1))) (by
      unfold Txt.ts
      rw [List.getElem?_append_right (by simp), List.length_map, Nat.add_sub_cancel_left, List.getElem?_map, List.getElem?_eq_getElem hi, ei]
      rfl)
    refine ⟨He.ga K x, es, m, He.glo_ok X G y.1, kd, fun z => ?_⟩
    have y2 := y.2
    rw [kd.at_] at y2
    have y3 := of_decide_eq_true y2
    unfold PySem.W.nsIn
    rw [kd.at_]
    exact dv_find y3
  · have y := List.all_eq_true.mp xd (x, j) hx
    unfold dctB at y
    rw [Bool.and_eq_true] at y
    have hx' : (x, j) ∈ t.dcts := hx
    obtain ⟨i, hi, ei⟩ := List.mem_iff_getElem.mp hx'
    obtain ⟨es, m, kd⟩ := ct.tab i (t := (fun K => He.ga K x, dctK j)) (by
      unfold Txt.ts
      rw [List.getElem?_append_left (by simpa using hi), List.getElem?_map, List.getElem?_eq_getElem hi, ei]
      rfl)
    refine ⟨He.ga K x, es, m, He.glo_ok X G y.1, kd, fun z b hz => ?_⟩
    have u := List.all_eq_true.mp y.2 (z, b) hz
    dsimp only at u
    cases q : PySem.W.nsIn K (He.ga K x) z with
    | none => rw [q] at u; cases u
    | some r => rw [q] at u; exact ⟨r, rfl, of_decide_eq_true u⟩
/-- the promise of the law's def, from what the tongue reckons -/
theorem txt_law {t : Txt} {T : Nat → Option Def} {P : Program} {w : World} {K : PySem.W.Frag} {h : Heap} {mg : Str → Option Value} {f : Addr} {i n m : Nat} {x : Str} (X : K.In h) (G : h.Ns mainGlobals mg) (hf : mg "law" = some (.ref f)) (tree : P.given.tree = none) (lk : (t.ents.all fun e => e.look T t.gm t.ex) = true) (lkW : (t.wrds.all fun e => e.lookW t.ex) = true) (lkM : (t.mths.all fun m => m.look T t.gm t.ex) = true) (ct : He.SaysT t.fa t.fn t.ts w K) (xb : t.xb K = true) (ne : closeE ∉ t.ex)
    (hi : (("law" : Str), i) ∈ t.gm.fns) (ha : t.lawArg x = true)
    (hv : ∀ ns : List Int, ns.length ≤ m → evc T (n + 1) i [.list (ns.map PyData.int)] = .ok (.bool true)) :
    ∃ (K : PySem.W.Frag) (fd : FuncData) (sp : Sp), K.In h ∧ (∀ (s : Shared) (u : Value), BindsTo s fd ⟨[u], []⟩ [(x, u)]) ∧
        (∀ (H : Hp) (a : Addr) (ns : List Int), ns.length ≤ m → SqL K H a (ns.map V.int) → sp [.ref a] H (fun v _ => v = .bl true) fun _ _ _ => False) ∧
        ∀ B : Heap, B.NoSeer → FnOk P w K mg B (L2N.CX P w) (n + 1 + 46) f fd [x] sp := by
  have c : He.SaysD t.fa t.fn K := ct.d
  have Z := txt_wd (T := T) (P := P) X G tree lk lkW lkM ct xb ne
  obtain ⟨e, he, q⟩ := List.mem_map.mp hi
  obtain ⟨he, hln⟩ := List.mem_filter.mp he
  rw [Bool.not_eq_true'] at hln
  have qn : e.name = "law" := congrArg Prod.fst q
  obtain ⟨pa, hp, hx⟩ := lawArg_ok ha he qn
  obtain ⟨fd, F⟩ := c.defs (d := e.defd) (List.mem_append_left _ (List.mem_append_right _ (List.mem_map.mpr ⟨e, he, rfl⟩)))
  have ea : defArgs e.st = ⟨[], [pa], none, [], [], none, []⟩ := by
    unfold plainArgs at hp
    split at hp
    · rename_i heq; cases hp; exact heq
    · cases hp
  have F2 : FunD K e.fn e.fn ⟨[], [pa], none, [], [], none, []⟩ (defBody e.st) (defScope e.st) [] [] (He.fAd K (e.name, none)) fd := by
    rw [← ea]; exact F
  have hb := FunD.bindsA (ps := [pa.arg]) F2 fun kV doc pm an cdv ct us hl => bind_plain (as := [pa]) (by simp) kV doc pm an cdv ct us hl
  have f1 : (He.Fa.glo e.name).ok K = true := c.facts (by
    simp only [Txt.fa, List.mem_append, List.mem_map]
    exact .inr (.inl (.inl (.inl (.inl (.inl ⟨e, he, rfl⟩))))))
  have m1 := He.glo_ok X G f1
  rw [qn] at m1
  have m2 := hf.symm.trans m1
  have ef : f = He.ga K e.name := by rw [qn]; cases m2; rfl
  refine ⟨K, fd, spF T (t.ca K) K (n + 1) i, X, fun s u => ?_, fun H a ns hl sq => ?_, fun B sr => ?_⟩
  · have z := hb s [u] rfl
    rw [hx] at z
    exact z
  · refine ⟨[.list (ns.map PyData.int)], H, Same.refl _, .cons (.lst sq ?_) .nil, ?_⟩
    · clear hl sq
      induction ns with
      | nil => exact .nil
      | cons a l ih => exact .cons (.int a) ih
    · rw [hv ns hl]
      intro v H' G' _ p
      cases p
      rfl
  · have lk2 := List.all_eq_true.mp lk e he
    unfold Ent.look at lk2
    rw [hp] at lk2
    have qi : e.num = i := congrArg Prod.snd q
    cases q2 : T e.num with
    | none => rw [q2] at lk2; cases lk2
    | some d =>
      rw [q2] at lk2
      simp only [Bool.and_eq_true, decide_eq_true_eq] at lk2
      obtain ⟨⟨⟨⟨h1, h2⟩, h3⟩, h4⟩, h5⟩ := lk2
      rw [hln, if_neg Bool.false_ne_true, Bool.and_eq_true, Bool.not_eq_true'] at h5
      obtain ⟨h6, h5⟩ := h5
      have A := fn_all (w := w) Z sr n
      have z := fn_one (w := w) Z sr A.f A.m A.i A.l F2 (scopeB_ok h1) q2 h6 h2 h3 h4 h5
      rw [qi] at z
      rw [ef]
      rw [← hx]
      exact z
/-- a world with one of its ways told -/
def setFT (b : Bool) (w : World) : World := { w with params := { w.params with followText := fun row => if row == "special-get-raises" then b else w.params.followText row } }
theorem setFT_eq (w : World) : setFT (w.params.followText "special-get-raises") w = w := by
  obtain ⟨d, p⟩ := w
  unfold setFT
  congr 1
  cases p
  simp only [PySem.Params.mk.injEq, true_and, and_true]
  funext row
  split
  · rename_i h
    rw [beq_iff_eq.mp h]
  · rfl
end Cw

set_option Elab.async false
set_option linter.all false
set_option maxRecDepth 100000
set_option maxHeartbeats 4000000
namespace Cw
open PySem PySem.Spec PySem.W PySem.Calls PyProof.Rows L2
/-! ### what is looked at behind the top: what the globals name, two steps deep; of some classes four -/
def refsL (g : Addr → Option Obj) (as : List Addr) : List Addr := as.flatMap fun a => match g a with
  | some o => He.refsD o
  | none => []
def asC (cs : List Str) (g : Addr → Option Obj) : List Addr :=
  let A := He.asD g 2
  let K := He.frT g A
  let c2 := refsL g (refsL g (cs.map fun x => He.ga K x))
  A ++ c2 ++ refsL g c2
def obsY (as : (Addr → Option Obj) → List Addr) (fa : List He.Fa) (fn : List He.DefD) (ts : List He.Tab) (ex : PySem.W.Frag → Bool) (g : Addr → Option Obj) : He.AlX := (fun K => (He.obsT fa fn ts K, ex K)) (He.frT g (as g))
def hookY (as : (Addr → Option Obj) → List Addr) (fa : List He.Fa) (fn : List He.DefD) (ts : List He.Tab) (ex : PySem.W.Frag → Bool) : PySem.W.Hook where
  α := He.AlX
  obs := fun s => obsY as fa fn ts ex s.heap.get?
  val := fun w => He.valX fn ts w
  says := fun w h => ∃ K : PySem.W.Frag, K.In h ∧ He.SaysX fa fn ts [] ex w h K
  of := fun w s e => ⟨_, He.frT_in, congrArg (fun z : He.AlX => z.1) e, congrArg (fun z : He.AlX => z.2) e, fun p hp => (nomatch hp), fun p hp => (nomatch hp), fun p hp => (nomatch hp)⟩
  keeps := fun _ _ _ ⟨K, hK, c⟩ k => ⟨K, PySem.W.Frag.In.keeps hK k, ⟨c.t, c.more, fun p hp => (nomatch hp), fun p hp => (nomatch hp), fun p hp => (nomatch hp)⟩⟩
theorem obsY_eq {as : (Addr → Option Obj) → List Addr} {fa : List He.Fa} {fn : List He.DefD} {ts : List He.Tab} {ex : PySem.W.Frag → Bool} {g : Addr → Option Obj} {s : Shared} (h : ∀ a, g a = s.heap.get? a) : obsY as fa fn ts ex g = (hookY as fa fn ts ex).obs s := by
  have e : g = s.heap.get? := funext h
  rw [e] <;> rfl
/-! ### the run's equation from four runs, each of them looked at for a part of what it tells: one kernel run alone would take too much room -/
theorem map_two {α β γ : Type _} {o : Option α} {f : α → β} {g : α → γ} {x : β} {y : γ} (a : o.map f = some x) (b : o.map g = some y) : o.map (fun s => (f s, g s)) = some (x, y) := by
  cases o with
  | none => cases a
  | some s => exact congrArg some (Prod.ext (Option.some.inj a) (Option.some.inj b))
open HandSHeadRun in
theorem run_parts {r : OpenRow} {q : Program} {as : (Addr → Option Obj) → List Addr} {fa : List He.Fa} {fn : List He.DefD} {ts : List He.Tab} {ex : PySem.W.Frag → Bool} {M : Nat} {loose : List PySem.Str} {w : World} (k : Nat)
    (a : ∀ os : OsState, (endF (stepQ (denQ tabQ) r.prog w) M r.prog w os).map (fun s => (looksF r.prog (boot_heap w.params) s.abs, seenQ q loose (importedModules r.prog.main.body) (fun s => xlAt q [] s && recOk r.toRowW.records s) s.abs)) = some (true, openGood q loose))
    (b : ∀ os : OsState, (endF (stepQ (denQ tabQ) r.prog w) M r.prog w os).map (fun s => fa.all fun f => f.ok (He.frT (HandSHeadRun.getT s) (as (HandSHeadRun.getT s)))) = some true)
    (c : ∀ os : OsState, (endF (stepQ (denQ tabQ) r.prog w) M r.prog w os).map (fun s => ((fn.take k).all fun d => d.ok (He.frT (HandSHeadRun.getT s) (as (HandSHeadRun.getT s))), (fn.take k).map fun d => He.fnW (He.frT (HandSHeadRun.getT s) (as (HandSHeadRun.getT s))) d.at_)) = some (true, (fn.take k).map He.DefD.val))
    (c' : ∀ os : OsState, (endF (stepQ (denQ tabQ) r.prog w) M r.prog w os).map (fun s => ((fn.drop k).all fun d => d.ok (He.frT (HandSHeadRun.getT s) (as (HandSHeadRun.getT s))), (fn.drop k).map fun d => He.fnW (He.frT (HandSHeadRun.getT s) (as (HandSHeadRun.getT s))) d.at_)) = some (true, (fn.drop k).map He.DefD.val))
    (d : ∀ os : OsState, (endF (stepQ (denQ tabQ) r.prog w) M r.prog w os).map (fun s => (ts.map fun t => He.dicW (He.frT (HandSHeadRun.getT s) (as (HandSHeadRun.getT s))) (t.1 (He.frT (HandSHeadRun.getT s) (as (HandSHeadRun.getT s)))), ex (He.frT (HandSHeadRun.getT s) (as (HandSHeadRun.getT s))))) = some (ts.map fun t => some (He.keysIn w.params t.2), true)) :
    HandSHeadRun.RunEq r q (hookY as fa fn ts ex) (fun s => obsY as fa fn ts ex (HandSHeadRun.getT s)) M loose w := by
  intro os
  have a := a os
  have b := b os
  have c := c os
  have c' := c' os
  have d := d os
  generalize endF (stepQ (denQ tabQ) r.prog w) M r.prog w os = o at a b c c' d ⊢
  cases o with
  | none => cases a
  | some s =>
    have a := Option.some.inj a
    have b : (fa.all fun f => f.ok (He.frT (HandSHeadRun.getT s) (as (HandSHeadRun.getT s)))) = true := Option.some.inj b
    have c := Option.some.inj c
    have c' := Option.some.inj c'
    have d := Option.some.inj d
    have a1 := congrArg Prod.fst a
    have a2 := congrArg Prod.snd a
    have c1 : (fn.all fun d => d.ok (He.frT (HandSHeadRun.getT s) (as (HandSHeadRun.getT s)))) = true := by
      rw [← List.take_append_drop k fn, List.all_append, Bool.and_eq_true]
      exact ⟨congrArg Prod.fst c, congrArg Prod.fst c'⟩
    have c2 : (fn.map fun d => He.fnW (He.frT (HandSHeadRun.getT s) (as (HandSHeadRun.getT s))) d.at_) = fn.map He.DefD.val := by
      rw [← List.take_append_drop k fn, List.map_append, List.map_append]
      exact congr (congrArg _ (congrArg Prod.snd c)) (congrArg Prod.snd c')
    have d1 : (ts.map fun t => He.dicW (He.frT (HandSHeadRun.getT s) (as (HandSHeadRun.getT s))) (t.1 (He.frT (HandSHeadRun.getT s) (as (HandSHeadRun.getT s))))) = ts.map fun t => some (He.keysIn w.params t.2) := congrArg Prod.fst d
    have d2 : ex (He.frT (HandSHeadRun.getT s) (as (HandSHeadRun.getT s))) = true := congrArg Prod.snd d
    refine congrArg some (Prod.ext a1 (Prod.ext a2 ?_))
    refine Prod.ext (Prod.ext (Prod.ext ?_ c2) d1) d2
    show ((fa.all fun f => f.ok _) && fn.all fun d => d.ok _) = true
    rw [b, c1]; rfl
end Cw

set_option Elab.async false
set_option linter.all false
set_option maxRecDepth 100000
set_option maxHeartbeats 0
namespace K91
open PySem Cw
def top (i : Nat) : Stmt := PySem.Challenge.pw_closewright_k91_desk_refused.main.body.getD i (.Pass ⟨0, 0, 0, 0⟩)
def clsBody (s : Stmt) (j : Nat) : Stmt := match s with
  | .ClassDef _ _ _ b .. => b.getD j (.Pass ⟨0, 0, 0, 0⟩)
  | _ => .Pass ⟨0, 0, 0, 0⟩
def ents : List Ent := [⟨"common", 10, ["one", "other"], top 11, false, none⟩,
  ⟨"fraction", 11, ["top", "under", "part"], top 12, false, none⟩,
  ⟨"plus", 17, ["one", "other"], top 13, false, none⟩,
  ⟨"opposite", 14, ["one"], top 14, false, none⟩,
  ⟨"minus", 18, ["one", "other"], top 15, false, none⟩,
  ⟨"times", 19, ["one", "other"], top 16, false, none⟩,
  ⟨"over", 20, ["one", "other"], top 17, false, none⟩,
  ⟨"power", 21, ["one", "many", "top", "under", "k"], top 18, false, none⟩,
  ⟨"order_of", 22, ["one", "other", "first", "second"], top 19, false, none⟩,
  ⟨"least_of", 23, ["some", "found", "one"], top 20, false, none⟩,
  ⟨"greatest_of", 24, ["some", "found", "one"], top 21, false, none⟩,
  ⟨"down_to", 15, ["one", "bits", "grid"], top 22, false, none⟩,
  ⟨"up_to", 16, ["one", "bits"], top 23, false, none⟩,
  ⟨"around", 25, ["some"], top 25, false, none⟩,
  ⟨"has", 26, ["one", "number"], top 26, false, none⟩,
  ⟨"sum_of", 27, ["one", "other"], top 27, false, none⟩,
  ⟨"less_of", 28, ["one", "other"], top 28, false, none⟩,
  ⟨"product_of", 29, ["one", "other"], top 29, false, none⟩,
  ⟨"power_of", 30, ["one", "many", "some"], top 30, false, none⟩,
  ⟨"quotient_of", 31, ["one", "other"], top 31, false, none⟩,
  ⟨"is_within", 41, ["box", "other", "side", "twin"], top 34, false, none⟩,
  ⟨"met", 42, ["box", "other", "found", "side", "twin", "low", "high"], top 35, false, none⟩,
  ⟨"hull", 43, ["box", "other", "side", "twin"], top 36, false, none⟩,
  ⟨"with_side", 44, ["box", "place", "side"], top 37, false, none⟩,
  ⟨"halves", 45, ["box", "side", "at"], top 38, false, none⟩,
  ⟨"middle_of", 46, ["box", "side"], top 39, false, none⟩,
  ⟨"corners", 47, ["box", "found", "side", "ends", "longer", "point", "end"], top 40, false, none⟩,
  ⟨"widest", 48, ["box", "found", "place", "side"], top 41, false, none⟩,
  ⟨"at_point", 49, ["point", "number"], top 42, false, none⟩,
  ⟨"sum_term", 34, ["one", "other"], top 46, false, none⟩,
  ⟨"less_term", 35, ["one", "other"], top 47, false, none⟩,
  ⟨"times_term", 36, ["one", "other"], top 48, false, none⟩,
  ⟨"power_term", 37, ["one", "many"], top 49, false, none⟩,
  ⟨"over_slope", 38, ["term", "one", "other", "top"], top 50, false, none⟩,
  ⟨"slope", 39, ["term", "k", "word", "one", "other"], top 51, false, none⟩,
  ⟨"joined", 50, ["word", "one", "other"], top 53, false, none⟩,
  ⟨"cover", 51, ["term", "box", "word", "one", "other"], top 54, false, none⟩,
  ⟨"sloped", 52, ["term", "box", "centre", "found", "whole", "k", "side", "part", "way"], top 55, false, none⟩,
  ⟨"parts", 71, ["term"], top 65, false, none⟩,
  ⟨"weight", 72, ["term", "below", "part"], top 66, false, none⟩,
  ⟨"is_small", 73, ["term", "part"], top 67, false, none⟩,
  ⟨"is_bounded", 74, ["term", "waiting", "many", "one", "deep", "part"], top 68, false, none⟩,
  ⟨"need_term", 75, ["term"], top 69, false, none⟩,
  ⟨"arity", 76, ["term", "part"], top 70, false, none⟩,
  ⟨"worth", 33, ["term", "point", "word", "one", "other"], top 71, false, none⟩,
  ⟨"shows", 56, ["sort", "found", "number", "is_above", "is_below"], top 74, false, none⟩,
  ⟨"need_paper", 57, ["paper", "sides", "deep"], top 75, false, none⟩,
  ⟨"is_shown", 58, ["claim", "box", "paper", "sort", "term", "number", "first", "second"], top 76, false, none⟩,
  ⟨"stands", 59, ["claim", "box", "paper"], top 77, false, none⟩,
  ⟨"worth_or_none", 61, ["term", "point", "found"], top 79, false, none⟩,
  ⟨"leaf", 62, ["claim", "box", "centre", "sort", "term", "number"], top 80, false, none⟩,
  ⟨"against", 63, ["claim", "box", "low", "high", "point", "sort", "term", "number", "found"], top 81, false, none⟩,
  ⟨"settled", 64, ["claim", "box", "depth", "paper", "points", "side", "at", "one", "other", "first", "second"], top 82, false, none⟩,
  ⟨"sign_of", 69, ["number"], top 85, false, none⟩,
  ⟨"end_signs", 77, ["term", "low", "high", "found", "one"], top 86, false, none⟩,
  ⟨"sort_of", 78, ["signs"], top 87, false, none⟩,
  ⟨"places", 81, ["term", "parts", "found", "low", "high", "sort", "paper", "at"], top 88, false, none⟩,
  ⟨"parts_of", 79, ["term", "turned", "low", "high", "depth", "box", "paper", "sort", "at"], top 89, false, none⟩,
  ⟨"zeros", 80, ["term", "span", "depth"], top 90, false, none⟩,
  ⟨"reach_of", 53, ["term", "box", "bits", "told", "found", "other"], top 92, false, none⟩,
  ⟨"moved_box", 54, ["rule", "box", "bits", "sides", "term"], top 93, false, none⟩,
  ⟨"boxes_after", 55, ["rule", "box", "steps", "bits", "found", "turn"], top 94, false, none⟩,
  ⟨"lies_in", 67, ["box", "boxes", "other"], top 95, false, none⟩,
  ⟨"fence", 68, ["rule", "box", "steps", "bits", "row", "at"], top 96, false, none⟩,
  ⟨"at_number", 99, ["number"], top 98, false, none⟩,
  ⟨"scaled", 100, ["number", "span"], top 99, false, none⟩,
  ⟨"row_of", 101, ["unit", "first", "second", "one", "other"], top 100, false, none⟩,
  ⟨"matrix_of", 113, ["one", "other", "middle", "found", "whole", "k"], top 102, false, none⟩,
  ⟨"net_of", 114, ["one", "other", "box", "depth", "matrix", "side", "at", "which", "term", "paper", "first", "second"], top 103, false, none⟩,
  ⟨"both", 115, ["one", "other", "box", "depth", "term"], top 104, false, none⟩,
  ⟨"shared", 116, ["box", "net", "first", "second"], top 105, false, none⟩,
  ⟨"term_of", 127, ["text", "reader", "found"], top 114, false, none⟩,
  ⟨"lesser", 88, ["one", "other"], top 116, false, none⟩,
  ⟨"bound", 89, ["term", "box", "highs", "found"], top 117, false, none⟩,
  ⟨"highest", 98, ["term", "box", "depth", "hunt", "tree"], top 119, false, none⟩,
  ⟨"need_writing", 106, ["good"], top 124, false, some "need"⟩,
  ⟨"number_text", 128, ["number"], top 126, false, none⟩,
  ⟨"figures_of", 129, ["text", "sign"], top 127, false, none⟩,
  ⟨"number_of", 130, ["text", "plain", "part", "found", "above", "mark", "under"], top 128, false, none⟩,
  ⟨"words_of", 131, ["tree", "one"], top 129, false, none⟩,
  ⟨"text_of", 132, ["tree"], top 130, false, none⟩,
  ⟨"tree_of", 137, ["text", "sides", "words", "found"], top 132, false, none⟩,
  ⟨"need_desk", 140, ["good", "word"], top 141, false, some "need"⟩,
  ⟨"need_name", 141, ["text", "sign"], top 143, false, none⟩,
  ⟨"count_of", 142, ["text", "most", "sign"], top 144, false, none⟩,
  ⟨"fraction_by", 143, ["text", "found"], top 145, false, none⟩,
  ⟨"numbers_by", 144, ["words", "word"], top 146, false, none⟩,
  ⟨"numbers_text", 145, ["numbers", "number"], top 147, false, none⟩,
  ⟨"box_text", 146, ["box", "side"], top 148, false, none⟩,
  ⟨"place_text", 147, ["place"], top 149, false, none⟩,
  ⟨"all_text", 148, ["texts"], top 150, false, none⟩,
  ⟨"is_paper", 149, ["tree"], top 151, false, none⟩,
  ⟨"settled_text", 150, ["told", "word", "thing", "point"], top 152, false, none⟩,
  ⟨"_law_cell", 1000, ["script", "k"], top 155, false, none⟩,
  ⟨"_law_drawn", 1001, ["cell", "k", "more"], top 156, false, none⟩,
  ⟨"_law_wrong", 1170, ["more", "some"], top 157, false, none⟩,
  ⟨"law", 1171, ["script", "desk", "rows", "k", "more", "good", "row", "word"], top 158, false, none⟩]
def mths : List Mth := [⟨1, "__init__", "Look.__init__", 102, ["self", "one", "other", "box", "told", "term", "k", "side", "part"], clsBody (top 101) 0⟩,
  ⟨1, "place", "Look.place", 107, ["self", "which", "first", "second", "units", "far", "found", "k", "row"], clsBody (top 101) 1⟩,
  ⟨1, "lies_within", "Look.lies_within", 108, ["self", "which", "first", "second", "found", "side"], clsBody (top 101) 2⟩,
  ⟨1, "is_one", "Look.is_one", 109, ["self", "matrix"], clsBody (top 101) 3⟩,
  ⟨2, "__init__", "Reader.__init__", 117, ["self", "text"], clsBody (top 113) 0⟩,
  ⟨2, "need", "Reader.need", 118, ["self", "good"], clsBody (top 113) 1⟩,
  ⟨2, "sign", "Reader.sign", 119, ["self"], clsBody (top 113) 2⟩,
  ⟨2, "takes", "Reader.takes", 120, ["self", "sign"], clsBody (top 113) 3⟩,
  ⟨2, "figures", "Reader.figures", 121, ["self", "begin"], clsBody (top 113) 4⟩,
  ⟨2, "number", "Reader.number", 122, ["self", "top", "under"], clsBody (top 113) 5⟩,
  ⟨2, "part", "Reader.part", 124, ["self", "sign", "found"], clsBody (top 113) 6⟩,
  ⟨2, "raised", "Reader.raised", 125, ["self", "found", "sign"], clsBody (top 113) 7⟩,
  ⟨2, "product", "Reader.product", 126, ["self", "found", "sign"], clsBody (top 113) 8⟩,
  ⟨2, "whole", "Reader.whole", 123, ["self", "is_less", "found", "sign"], clsBody (top 113) 9⟩,
  ⟨0, "__init__", "Hunt.__init__", 93, ["self", "term"], clsBody (top 118) 0⟩,
  ⟨0, "look_at", "Hunt.look_at", 94, ["self", "box", "point", "found"], clsBody (top 118) 1⟩,
  ⟨0, "is_out", "Hunt.is_out", 95, ["self", "known"], clsBody (top 118) 2⟩,
  ⟨0, "search", "Hunt.search", 96, ["self", "box", "depth", "layer", "turn", "later", "one", "known", "side", "half"], clsBody (top 118) 3⟩,
  ⟨0, "laid", "Hunt.laid", 97, ["self", "box", "known", "depth", "side", "at", "first", "second"], clsBody (top 118) 4⟩,
  ⟨3, "__init__", "Words.__init__", 133, ["self", "text", "sides"], clsBody (top 131) 0⟩,
  ⟨3, "following", "Words.following", 134, ["self"], clsBody (top 131) 1⟩,
  ⟨3, "several", "Words.several", 135, ["self", "many", "turn"], clsBody (top 131) 2⟩,
  ⟨3, "one_thing", "Words.one_thing", 136, ["self", "deep", "word", "side", "number", "at", "first", "which"], clsBody (top 131) 3⟩,
  ⟨4, "__init__", "Desk.__init__", 151, ["self"], clsBody (top 153) 0⟩,
  ⟨4, "term_by", "Desk.term_by", 152, ["self", "name"], clsBody (top 153) 1⟩,
  ⟨4, "box_by", "Desk.box_by", 153, ["self", "name"], clsBody (top 153) 2⟩,
  ⟨4, "to_term", "Desk.to_term", 154, ["self", "words"], clsBody (top 153) 3⟩,
  ⟨4, "to_box", "Desk.to_box", 155, ["self", "words", "ends", "box", "at", "low", "high"], clsBody (top 153) 4⟩,
  ⟨4, "to_at", "Desk.to_at", 156, ["self", "words", "point", "term"], clsBody (top 153) 5⟩,
  ⟨4, "claim_by", "Desk.claim_by", 157, ["self", "words", "number", "term", "box"], clsBody (top 153) 6⟩,
  ⟨4, "to_claim", "Desk.to_claim", 158, ["self", "words", "depth", "claim", "box"], clsBody (top 153) 7⟩,
  ⟨4, "to_look", "Desk.to_look", 159, ["self", "words", "tree", "claim", "box"], clsBody (top 153) 8⟩,
  ⟨4, "asked", "Desk.asked", 160, ["self", "words", "many", "word", "depth", "terms", "box", "term"], clsBody (top 153) 9⟩,
  ⟨4, "to_zeros", "Desk.to_zeros", 161, ["self", "words", "terms", "box", "depth", "place"], clsBody (top 153) 10⟩,
  ⟨4, "to_both", "Desk.to_both", 162, ["self", "words", "found", "terms", "box", "depth", "word", "part"], clsBody (top 153) 11⟩,
  ⟨4, "to_top", "Desk.to_top", 163, ["self", "words", "found", "ahead", "terms", "box", "depth"], clsBody (top 153) 12⟩,
  ⟨4, "to_fence", "Desk.to_fence", 164, ["self", "words", "word", "steps", "bits", "box", "rule", "found", "term"], clsBody (top 153) 13⟩,
  ⟨4, "answer", "Desk.answer", 165, ["self", "row", "words"], clsBody (top 153) 14⟩,
  ⟨4, "say", "Desk.say", 166, ["self", "row", "e", "found"], clsBody (top 153) 15⟩]
def txt : Txt := ⟨ents, [("ALONE", 18), ("FIGURES_desk", 14), ("FIGURES_reading", 14), ("FIGURES_writing", 14), ("LETTERS", 19), ("MOST_BRACKETS", 17), ("MOST_DEPTH_desk", 15), ("MOST_DEPTH_terms", 8), ("MOST_FIGURES", 15), ("MOST_LETTERS", 21), ("MOST_NUMBER", 9), ("MOST_POWER", 10), ("MOST_SIDES", 11), ("MOST_SIGNS", 16), ("MOST_TUPLES", 7), ("MOST_VARIABLES", 11), ("MOST_WEIGHT", 6), ("MOST_WITHIN_papers", 12), ("MOST_WITHIN_writing", 12), ("NOUGHT", 0), ("ONE", 1), ("SORTS", 20), ("TWO_boxes", 2), ("TWO_zeros", 2), ("UNIT", 4), ("VARIABLES", 13), ("ZERO", 3)], ["BadPaper", "BadTerm", "BadText", "NoFraction", "NoStretch", "NoWorth"], [], [("SIGNS", 0)], [1, 2, 0, 3, 4], mths, [("PRODUCTS", 2), ("SUMS", 1)], true, [("Refused.__init__", clsBody (top 140) 0)]⟩
def names : List Str := (["__name__", "CloseError", "NoFraction", "NoStretch", "BadTerm", "BadText", "NoWorth", "BadPaper", "NOUGHT", "ONE", "common", "fraction", "plus", "opposite", "minus", "times", "over", "power", "order_of", "least_of", "greatest_of", "down_to", "up_to", "around", "has", "sum_of", "less_of", "product_of", "power_of", "quotient_of"] : List Str) ++ (["TWO_boxes", "is_within", "met", "hull", "with_side", "halves", "middle_of", "corners", "widest", "at_point", "ZERO", "UNIT", "sum_term", "less_term", "times_term", "power_term", "over_slope", "slope", "joined", "cover", "sloped", "MOST_WEIGHT", "MOST_TUPLES", "MOST_DEPTH_terms", "MOST_NUMBER", "MOST_POWER", "MOST_VARIABLES", "SIGNS", "VARIABLES", "parts"] : List Str) ++ (["weight", "is_small", "is_bounded", "need_term", "arity", "worth", "MOST_WITHIN_papers", "shows", "need_paper", "is_shown", "stands", "worth_or_none", "leaf", "against", "settled", "TWO_zeros", "sign_of", "end_signs", "sort_of", "places", "parts_of", "zeros", "reach_of", "moved_box", "boxes_after", "lies_in", "fence", "at_number", "scaled", "row_of"] : List Str) ++ (["Look", "matrix_of", "net_of", "both", "shared", "FIGURES_reading", "MOST_FIGURES", "MOST_SIGNS", "MOST_BRACKETS", "SUMS", "PRODUCTS", "Reader", "term_of", "lesser", "bound", "Hunt", "highest", "FIGURES_writing", "MOST_WITHIN_writing", "ALONE", "need", "need_writing", "number_text", "figures_of", "number_of", "words_of", "text_of", "Words", "tree_of", "LETTERS"] : List Str) ++ (["FIGURES_desk", "SORTS", "MOST_DEPTH_desk", "MOST_LETTERS", "MOST_SIDES", "Refused", "need_desk", "need_name", "count_of", "fraction_by", "numbers_by", "numbers_text", "box_text", "place_text", "all_text", "is_paper", "settled_text", "Desk", "_law_cell", "_law_drawn", "_law_wrong"] : List Str)
section
open PySem.Spec PySem.W PySem.Calls PyProof.Rows L2 HandSHeadRun
abbrev RR : OpenRow := OpenLaw.row PySem.Challenge.rw_closewright_k91_desk_refused
abbrev asc : (Addr → Option Obj) → List Addr := Cw.asC (refE :: txt.clss.map clsN)
abbrev hk : Hook := Cw.hookY asc txt.fa txt.fn txt.ts txt.xb
def ob (s : SharedT) : He.AlX := Cw.obsY asc txt.fa txt.fn txt.ts txt.xb (getT s)
theorem ob_eq (s : SharedT) : ob s = hk.obs s.abs := Cw.obsY_eq (getT_eq s)
theorem ra_false (w : World) (os : OsState) : (endF (stepQ (denQ tabQ) RR.prog (Cw.setFT false w)) 20000 RR.prog (Cw.setFT false w) os).map (fun s => (looksF RR.prog (boot_heap (Cw.setFT false w).params) s.abs, seenQ (view RR.prog [158]) names (importedModules RR.prog.main.body) (fun s => xlAt (view RR.prog [158]) [] s && recOk RR.toRowW.records s) s.abs)) = some (true, openGood (view RR.prog [158]) names) := by
  kernel_rfl
theorem rb_false (w : World) (os : OsState) : (endF (stepQ (denQ tabQ) RR.prog (Cw.setFT false w)) 20000 RR.prog (Cw.setFT false w) os).map (fun s => (txt.fa.all fun f => f.ok (He.frT (getT s) (asc (getT s))))) = some (true) := by
  kernel_rfl
theorem rc_false (w : World) (os : OsState) : (endF (stepQ (denQ tabQ) RR.prog (Cw.setFT false w)) 20000 RR.prog (Cw.setFT false w) os).map (fun s => ((txt.fn.take 68).all fun d => d.ok (He.frT (getT s) (asc (getT s))), (txt.fn.take 68).map fun d => He.fnW (He.frT (getT s) (asc (getT s))) d.at_)) = some (true, (txt.fn.take 68).map He.DefD.val) := by
  kernel_rfl
theorem re_false (w : World) (os : OsState) : (endF (stepQ (denQ tabQ) RR.prog (Cw.setFT false w)) 20000 RR.prog (Cw.setFT false w) os).map (fun s => ((txt.fn.drop 68).all fun d => d.ok (He.frT (getT s) (asc (getT s))), (txt.fn.drop 68).map fun d => He.fnW (He.frT (getT s) (asc (getT s))) d.at_)) = some (true, (txt.fn.drop 68).map He.DefD.val) := by
  kernel_rfl
theorem rd_false (w : World) (os : OsState) : (endF (stepQ (denQ tabQ) RR.prog (Cw.setFT false w)) 20000 RR.prog (Cw.setFT false w) os).map (fun s => (txt.ts.map fun t => He.dicW (He.frT (getT s) (asc (getT s))) (t.1 (He.frT (getT s) (asc (getT s)))), txt.xb (He.frT (getT s) (asc (getT s))))) = some (txt.ts.map fun t => some (He.keysIn (Cw.setFT false w).params t.2), true) := by
  kernel_rfl
theorem run_false (w : World) : RunEq RR (view RR.prog [158]) hk ob 20000 names (Cw.setFT false w) := Cw.run_parts 68 (ra_false w) (rb_false w) (rc_false w) (re_false w) (rd_false w)
theorem ra_true (w : World) (os : OsState) : (endF (stepQ (denQ tabQ) RR.prog (Cw.setFT true w)) 20000 RR.prog (Cw.setFT true w) os).map (fun s => (looksF RR.prog (boot_heap (Cw.setFT true w).params) s.abs, seenQ (view RR.prog [158]) names (importedModules RR.prog.main.body) (fun s => xlAt (view RR.prog [158]) [] s && recOk RR.toRowW.records s) s.abs)) = some (true, openGood (view RR.prog [158]) names) := by
  kernel_rfl
theorem rb_true (w : World) (os : OsState) : (endF (stepQ (denQ tabQ) RR.prog (Cw.setFT true w)) 20000 RR.prog (Cw.setFT true w) os).map (fun s => (txt.fa.all fun f => f.ok (He.frT (getT s) (asc (getT s))))) = some (true) := by
  kernel_rfl
theorem rc_true (w : World) (os : OsState) : (endF (stepQ (denQ tabQ) RR.prog (Cw.setFT true w)) 20000 RR.prog (Cw.setFT true w) os).map (fun s => ((txt.fn.take 68).all fun d => d.ok (He.frT (getT s) (asc (getT s))), (txt.fn.take 68).map fun d => He.fnW (He.frT (getT s) (asc (getT s))) d.at_)) = some (true, (txt.fn.take 68).map He.DefD.val) := by
  kernel_rfl
theorem re_true (w : World) (os : OsState) : (endF (stepQ (denQ tabQ) RR.prog (Cw.setFT true w)) 20000 RR.prog (Cw.setFT true w) os).map (fun s => ((txt.fn.drop 68).all fun d => d.ok (He.frT (getT s) (asc (getT s))), (txt.fn.drop 68).map fun d => He.fnW (He.frT (getT s) (asc (getT s))) d.at_)) = some (true, (txt.fn.drop 68).map He.DefD.val) := by
  kernel_rfl
theorem rd_true (w : World) (os : OsState) : (endF (stepQ (denQ tabQ) RR.prog (Cw.setFT true w)) 20000 RR.prog (Cw.setFT true w) os).map (fun s => (txt.ts.map fun t => He.dicW (He.frT (getT s) (asc (getT s))) (t.1 (He.frT (getT s) (asc (getT s)))), txt.xb (He.frT (getT s) (asc (getT s))))) = some (txt.ts.map fun t => some (He.keysIn (Cw.setFT true w).params t.2), true) := by
  kernel_rfl
theorem run_true (w : World) : RunEq RR (view RR.prog [158]) hk ob 20000 names (Cw.setFT true w) := Cw.run_parts 68 (ra_true w) (rb_true w) (rc_true w) (re_true w) (rd_true w)
theorem run (w : World) : RunEq RR (view RR.prog [158]) hk ob 20000 names w := by
  have key : ∀ b : Bool, RunEq RR (view RR.prog [158]) hk ob 20000 names (Cw.setFT b w) := fun b => by
    cases b
    · exact run_false w
    · exact run_true w
  have z := key (w.params.followText "special-get-raises")
  rw [Cw.setFT_eq] at z
  exact z
end
end K91
set_option Elab.async false
set_option linter.all false
set_option maxRecDepth 100000
set_option maxHeartbeats 4000000
namespace Cw
open PySem

/-! ### reckoning: a def by its number -/
class Fn (T : Nat → Option Def) (i : Nat) (d : outParam Def) : Prop where
  eq : T i = some d
theorem evc_fn {T : Nat → Option Def} {n i : Nat} {d : Def} {ds : List D} [h : Fn T i d] (hi : d.ini = false) : evc T (n + 1) i ds = runD (evc T n) d ds := evc_one h.eq hi

/-! ### whiles -/
theorem whlN_mono {c : List Sl → R Bool} {b : List Sl → Out} : ∀ {n : Nat} {env : List Sl} {o : Out}, whlN c b n env = some o → ∀ k, whlN c b (n + k) env = some o
  | 0, _, _, h, _ => by cases h
  | n + 1, env, o, h, k => by
    have e : n + 1 + k = (n + k) + 1 := by omega
    rw [e]
    unfold whlN at h ⊢
    cases q : c env with
    | ok v => cases v with
      | true =>
        rw [q] at h
        dsimp only at h ⊢
        cases q2 : b env with
        | next e => rw [q2] at h; exact whlN_mono h k
        | cont e => rw [q2] at h; exact whlN_mono h k
        | _ => rw [q2] at h; exact h
      | false => rw [q] at h; exact h
    | _ => rw [q] at h; exact h
theorem whl_of {c : List Sl → R Bool} {b : List Sl → Out} {n : Nat} {env : List Sl} {o : Out} (h : whlN c b n env = some o) : whl c b env = o := by
  unfold whl
  have q : ∃ n o, whlN c b n env = some o := ⟨n, o, h⟩
  rw [dif_pos q]
  have z := Classical.choose_spec (Classical.choose_spec q)
  have z1 := whlN_mono z n
  have z2 := whlN_mono h (Classical.choose q)
  rw [Nat.add_comm] at z2
  exact Option.some.inj (z1.symm.trans z2)
theorem whl_stop {c : List Sl → R Bool} {b : List Sl → Out} {env : List Sl} (h : c env = .ok false) : whl c b env = .next env :=
  whl_of (n := 1) (by unfold whlN; rw [h])
theorem whl_next {c : List Sl → R Bool} {b : List Sl → Out} {env e : List Sl} (h : c env = .ok true) (h2 : b env = .next e) : whl c b env = whl c b e := by
  by_cases q : ∃ n o, whlN c b n e = some o
  · obtain ⟨n, o, q⟩ := q
    rw [whl_of q]
    refine whl_of (n := n + 1) ?_
    unfold whlN
    rw [h]
    dsimp only
    rw [h2]
    exact q
  · have q2 : ¬ ∃ n o, whlN c b n env = some o := fun ⟨n, o, z⟩ => by
      cases n with
      | zero => cases z
      | succ n =>
        unfold whlN at z
        rw [h] at z
        dsimp only at z
        rw [h2] at z
        exact q ⟨n, o, z⟩
    unfold whl
    rw [dif_neg q, dif_neg q2]
theorem whl_ret {c : List Sl → R Bool} {b : List Sl → Out} {env : List Sl} {d : D} (h : c env = .ok true) (h2 : b env = .ret d) : whl c b env = .ret d :=
  whl_of (n := 1) (by unfold whlN; rw [h]; dsimp only; rw [h2])

@[simp] theorem bind_ok {A B : Type} (a : A) (f : A → R B) : (R.ok a).bind f = f a := rfl
@[simp] theorem bind_bad {A B : Type} (f : A → R B) : (R.bad : R A).bind f = .bad := rfl
@[simp] theorem bind_exc {A B : Type} (c : Str) (f : A → R B) : (R.exc c : R A).bind f = .exc c := rfl
@[simp] theorem onR_ok {A : Type} (env : List Sl) (a : A) (f : A → Out) : onR env (.ok a) f = f a := rfl
@[simp] theorem onR_exc {A : Type} (env : List Sl) (c : Str) (f : A → Out) : onR env (.exc c) f = .exc c env := rfl
@[simp] theorem onR_bad {A : Type} (env : List Sl) (f : A → Out) : onR env .bad f = .bad := rfl
@[simp] theorem toB_bool (b : Bool) : toB (.ok (.bool b)) = .ok b := rfl
@[simp] theorem toB_exc (c : Str) : toB (.exc c) = .exc c := rfl
/-! comparisons of plain things -/
@[simp] theorem sh_int (i : Int) : SeqAt.shaped (.int i) = true := rfl
@[simp] theorem sh_bool (i : Bool) : SeqAt.shaped (.bool i) = true := rfl
@[simp] theorem sh_none : SeqAt.shaped (.none) = true := rfl
@[simp] theorem eq_int (a b : Int) : cmR .eq (.int a) (.int b) = .ok (.bool (a == b)) := rfl
@[simp] theorem ne_int (a b : Int) : cmR .ne (.int a) (.int b) = .ok (.bool (!(a == b))) := rfl
@[simp] theorem lt_int' (a b : Int) : cmR .lt (.int a) (.int b) = .ok (.bool (decide (a < b))) := rfl
@[simp] theorem le_int' (a b : Int) : cmR .le (.int a) (.int b) = .ok (.bool (decide (a ≤ b))) := rfl
@[simp] theorem gt_int' (a b : Int) : cmR .gt (.int a) (.int b) = .ok (.bool (decide (b < a))) := rfl
@[simp] theorem ge_int' (a b : Int) : cmR .ge (.int a) (.int b) = .ok (.bool (decide (b ≤ a))) := rfl
@[simp] theorem add_int' (a b : Int) : opR .add (.int a) (.int b) = .ok (.int (a + b)) := rfl
@[simp] theorem sub_int' (a b : Int) : opR .sub (.int a) (.int b) = .ok (.int (a - b)) := rfl
theorem mul_int' {a b : Int} (h : MulOk a b) : opR .mul (.int a) (.int b) = .ok (.int (a * b)) := by
  show (if MulOk a b then _ else _) = _
  rw [if_pos h]
theorem fdiv_int' {a b : Int} (h : b ≠ 0) : opR .fdiv (.int a) (.int b) = .ok (.int (a.fdiv b)) := by
  show (if b = 0 then _ else _) = _
  rw [if_neg h]
theorem mod_int'' {a b : Int} (h : b ≠ 0) : opR .mod (.int a) (.int b) = .ok (.int (a.fmod b)) := by
  show (if b = 0 then _ else _) = _
  rw [if_neg h]
theorem fdiv_pos {a b : Int} (h : 0 < b) : opR .fdiv (.int a) (.int b) = .ok (.int (a / b)) := by
  rw [fdiv_int' (by omega), Int.fdiv_eq_ediv_of_nonneg a (by omega)]
theorem mod_pos {a b : Int} (h : 0 < b) : opR .mod (.int a) (.int b) = .ok (.int (a % b)) := by
  rw [mod_int'' (by omega), Int.fmod_eq_emod_of_nonneg a (by omega)]
theorem pow_int' {a b : Int} (h : 0 ≤ b ∧ b ≤ 1000000 ∧ a.natAbs < 2 ^ 64) : opR .pow (.int a) (.int b) = .ok (.int (a ^ b.toNat)) := by
  show (if _ then _ else _) = _
  rw [if_pos h]
theorem shl_int' {a b : Int} (h : 0 ≤ b ∧ b ≤ 1000000 ∧ a.natAbs < 2 ^ 64) : opR .shl (.int a) (.int b) = .ok (.int (a * 2 ^ b.toNat)) := by
  show (if _ then _ else _) = _
  rw [if_pos h]

/-! ### reckoning step by step -/
def notR (r : R D) : R D := r.bind fun x => match x with
  | .bool b => .ok (.bool (!b))
  | _ => .bad
def negR (r : R D) : R D := r.bind fun x => match x with
  | .int i => .ok (.int (-i))
  | _ => .bad
def andR (r s : R D) : R D := r.bind fun x => match x with
  | .bool true => s
  | .bool false => .ok (.bool false)
  | _ => .bad
def orR (r s : R D) : R D := r.bind fun x => match x with
  | .bool true => .ok (.bool true)
  | .bool false => s
  | _ => .bad
def ifeR (r s t : R D) : R D := r.bind fun x => match x with
  | .bool true => s
  | .bool false => t
  | _ => .bad
def rng1R (r : R D) : R (List D) := r.bind fun x => match x with
  | .int j => rngR 0 j
  | _ => .bad
def rng2R (r s : R D) : R (List D) := r.bind fun x => s.bind fun y => match x, y with
  | .int i, .int j => rngR i j
  | _, _ => .bad
theorem rng1_ok {j : Int} : rng1R (.ok (.int j)) = rngR 0 j := by simp only [rng1R, bind_ok]
theorem rng2_ok {i j : Int} : rng2R (.ok (.int i)) (.ok (.int j)) = rngR i j := by simp only [rng2R, bind_ok]
theorem not_ok {b : Bool} : notR (.ok (.bool b)) = .ok (.bool (!b)) := rfl
theorem neg_ok {b : Int} : negR (.ok (.int b)) = .ok (.int (-b)) := rfl
theorem and_t {s : R D} : andR (.ok (.bool true)) s = s := rfl
theorem and_f {s : R D} : andR (.ok (.bool false)) s = .ok (.bool false) := rfl
theorem and_ok {a b : Bool} : andR (.ok (.bool a)) (.ok (.bool b)) = .ok (.bool (a && b)) := by cases a <;> rfl
theorem and_x {c : Str} {s : R D} : andR (.exc c) s = .exc c := rfl
theorem or_t {s : R D} : orR (.ok (.bool true)) s = .ok (.bool true) := rfl
theorem or_f {s : R D} : orR (.ok (.bool false)) s = s := rfl
theorem or_ok {a b : Bool} : orR (.ok (.bool a)) (.ok (.bool b)) = .ok (.bool (a || b)) := by cases a <;> rfl
theorem or_x {c : Str} {s : R D} : orR (.exc c) s = .exc c := rfl
theorem ife_b {b : Bool} {s t : R D} : ifeR (.ok (.bool b)) s t = if b = true then s else t := by cases b <;> rfl
theorem is_none : cmR .is .none .none = .ok (.bool true) := rfl
noncomputable def whlS (F : Nat → List D → R D) (ms : List Nat) (c : E) (b : Ss) (env : List Sl) : Out := whl (fun e => toB (ev F (see e ms) c)) (fun e => evSs F e b) env
noncomputable def forS (F : Nat → List D → R D) (tg : Tg) (b : Ss) (ds : List D) (env : List Sl) : Out := forGo (fun d e => match setT e tg d with
    | .ok e2 => evSs F e2 b
    | _ => .bad) ds env
def lcS (F : Nat → List D → R D) (own : List Nat) (elt : E) (tg : Tg) (c : Eo) (env : List Sl) (ds : List D) : R (List D) := lcGo (fun d => (setT (wipeE env own) tg d).bind fun e2 => (evC F e2 c).bind fun b => if b = true then (ev F e2 elt).bind fun x => .ok (some x) else .ok none) ds
def outR : Out → R D
  | .next _ => .ok .none
  | .ret x => .ok x
  | .exc c _ => .exc c
  | _ => .bad
theorem outR_ret {d : D} : outR (.ret d) = .ok d := rfl
theorem outR_next {e : List Sl} : outR (.next e) = .ok .none := rfl
theorem outR_exc {e : List Sl} {c : Str} : outR (.exc c e) = .exc c := rfl
def thenS (F : Nat → List D → R D) (o : Out) (ss : Ss) (k : Out → Out) : Out := k o
noncomputable def goSs (F : Nat → List D → R D) (ss : Ss) : Out → Out
  | .next e => evSs F e ss
  | o => o
theorem goSs_next {F : Nat → List D → R D} {ss : Ss} {e : List Sl} : goSs F ss (.next e) = evSs F e ss := rfl
theorem goSs_ret {F : Nat → List D → R D} {ss : Ss} {d : D} : goSs F ss (.ret d) = .ret d := rfl
theorem goSs_exc {F : Nat → List D → R D} {ss : Ss} {c : Str} {e : List Sl} : goSs F ss (.exc c e) = .exc c e := rfl
theorem goSs_brk {F : Nat → List D → R D} {ss : Ss} {e : List Sl} : goSs F ss (.brk e) = .brk e := rfl
theorem goSs_cont {F : Nat → List D → R D} {ss : Ss} {e : List Sl} : goSs F ss (.cont e) = .cont e := rfl
theorem run_eq {F : Nat → List D → R D} {d : Def} {ds : List D} (h : ds.length = d.ps) : runD F d ds = outR (evSs F (startE d.sl ds) d.body) := by
  unfold runD
  rw [if_pos h]
  unfold outR
  split <;> simp_all
theorem evc_run {T : Nat → Option Def} {n i : Nat} {d : Def} {ds : List D} [h : Fn T i d] (hl : ds.length = d.ps) (hi : d.ini = false) : evc T (n + 1) i ds = outR (evSs (evc T n) (startE d.sl ds) d.body) := by
  rw [evc_fn hi, run_eq hl]
section
variable {F : Nat → List D → R D} {env : List Sl}
theorem ss_nil : evSs F env .nil = .next env := by simp only [evSs]
theorem ss_cons {s : S} {ss : Ss} : evSs F env (.cons s ss) = goSs F ss (evS F env s) := by
  simp only [evSs]
  cases evS F env s <;> rfl
theorem s_asg' {i : Nat} {ms : List Nat} {e : E} : evS F env (.asg i ms e) = onR env (ev F (see env ms) e) fun d => .next ((if flatD d = true then env else see env ms).set i (.fr d)) := by simp only [evS] <;> rfl
theorem s_asgL' {i : Nat} {ms : List Nat} {e : E} : evS F env (.asgL i ms e) = onR env (ev F (see env ms) e) fun d => match d with
    | .list ds => .next ((see env ms).set i (.ow ds))
    | _ => .bad := by simp only [evS] <;> rfl
theorem s_asgT' {l ms : List Nat} {e : E} : evS F env (.asgT l ms e) = onR env (ev F (see env ms) e) fun d => match setT (see env ms) (.many l) d with
    | .ok e2 => .next e2
    | _ => .bad := by simp only [evS] <;> rfl
theorem s_par' {i j : Nat} {ms : List Nat} {a b : E} : evS F env (.par i j ms a b) = onR env (ev F (see env ms) a) fun x => onR env (ev F (see env ms) b) fun y => .next (((see env ms).set i (.fr x)).set j (.fr y)) := by simp only [evS] <;> rfl
theorem s_ret' {ms : List Nat} {e : E} : evS F env (.ret ms e) = onR env (ev F (see env ms) e) fun d => .ret d := by simp only [evS] <;> rfl
theorem s_iff' {ms : List Nat} {c : E} {a b : Ss} : evS F env (.iff ms c a b) = onR env (toB (ev F (see env ms) c)) fun x => if x = true then evSs F env a else evSs F env b := by simp only [evS] <;> rfl
theorem s_whl' {ms : List Nat} {c : E} {b : Ss} : evS F env (.whl ms c b) = whlS F ms c b env := by simp only [evS, whlS]
theorem s_for' {ms : List Nat} {tg : Tg} {it : It} {b : Ss} : evS F env (.for_ ms tg it b) = onR env (evI F (see env ms) it) fun ds => forS F tg b ds (see env ms) := by simp only [evS, forS] <;> rfl
theorem s_rais' {c : Str} : evS F env (.rais c) = .exc c env := by simp only [evS] <;> rfl
theorem s_expr' {ms : List Nat} {e : E} : evS F env (.expr ms e) = onR env (ev F (see env ms) e) fun _ => .next env := by simp only [evS] <;> rfl
theorem s_brk' : evS F env .brk = .brk env := by simp only [evS] <;> rfl
theorem s_cont' : evS F env .cont = .cont env := by simp only [evS] <;> rfl
theorem s_pass' : evS F env .pass = .next env := by simp only [evS] <;> rfl
theorem s_try0 {b : Ss} {c : Str} {i : Nat} {d : D} : evS F env (.tryN b c i d) = match evSs F env b with
    | .exc c2 e => if isRef c2 = true then .bad else if isSub c2 c = true then .next (e.set i (.fr d)) else .exc c2 e
    | o => o := by
  simp only [evS] <;> (cases evSs F env b <;> rfl)
def tryWO (k : Nat) : Out → Out
  | .exc c _ => if isRef c = true then .bad else .ret (.str (wordT k c))
  | o => o
theorem s_tryW' {b : Ss} {i k : Nat} : evS F env (.tryW b i k) = tryWO k (evSs F env b) := by
  simp only [evS] <;> (cases evSs F env b <;> rfl)
theorem tryW_ret {k : Nat} {d : D} : tryWO k (.ret d) = .ret d := rfl
theorem tryW_next {k : Nat} {e : List Sl} : tryWO k (.next e) = .next e := rfl
theorem tryW_exc {k : Nat} {c : Str} {e : List Sl} : tryWO k (.exc c e) = if isRef c = true then .bad else .ret (.str (wordT k c)) := rfl
def tryAO (i k j : Nat) : Out → Out
  | .exc c e => if isRef c = true then .bad else (match e[j]? with
    | some (.ow ds) => if ds.length < sizeLine then .next ((e.set i .no).set j (.ow (ds ++ [.str (wordT k c)]))) else .bad
    | _ => .bad)
  | o => o
theorem s_tryA' {b : Ss} {i k j : Nat} : evS F env (.tryA b i k j) = tryAO i k j (evSs F env b) := by
  simp only [evS] <;> (cases evSs F env b <;> rfl)
theorem tryA_next {i k j : Nat} {e : List Sl} : tryAO i k j (.next e) = .next e := rfl
theorem tryA_exc {i k j : Nat} {c : Str} {e : List Sl} {ds : List D} (h : e[j]? = some (.ow ds)) (h2 : ds.length < sizeLine) (nr : isRef c = false) : tryAO i k j (.exc c e) = .next ((e.set i .no).set j (.ow (ds ++ [.str (wordT k c)]))) := by
  show (if isRef c = true then .bad else (match e[j]? with
    | some (.ow ds) => if ds.length < sizeLine then Out.next ((e.set i .no).set j (.ow (ds ++ [PyData.str (wordT k c)]))) else .bad
    | _ => .bad)) = _
  rw [nr, if_neg Bool.false_ne_true, h]
  exact if_pos h2
def tryNO (c : Str) (i : Nat) (d : D) : Out → Out
  | .exc c2 e => if isRef c2 = true then .bad else if isSub c2 c = true then .next (e.set i (.fr d)) else .exc c2 e
  | o => o
theorem s_try' {b : Ss} {c : Str} {i : Nat} {d : D} : evS F env (.tryN b c i d) = tryNO c i d (evSs F env b) := by
  rw [s_try0]
  cases evSs F env b <;> rfl
theorem tryN_ret {c : Str} {i : Nat} {d x : D} : tryNO c i d (.ret x) = .ret x := rfl
theorem tryN_next {c : Str} {i : Nat} {d : D} {e : List Sl} : tryNO c i d (.next e) = .next e := rfl
theorem tryN_exc {c c2 : Str} {i : Nat} {d : D} {e : List Sl} : tryNO c i d (.exc c2 e) = if isRef c2 = true then .bad else if isSub c2 c = true then .next (e.set i (.fr d)) else .exc c2 e := rfl
theorem e_k {d : D} : ev F env (.k d) = .ok d := by simp only [ev] <;> rfl
theorem e_v {i : Nat} : ev F env (.v i) = getV env i := by simp only [ev] <;> rfl
theorem e_g {j : Nat} : ev F env (.g j) = .ok (cst j) := by simp only [ev] <;> rfl
theorem e_tup' {es : Es} : ev F env (.tup es) = (evs F env es).bind fun ds => .ok (.tuple ds) := by simp only [ev] <;> rfl
theorem e_lst' {es : Es} : ev F env (.lst es) = (evs F env es).bind fun ds => .ok (.list ds) := by simp only [ev] <;> rfl
theorem e_bin' {o : Op} {a b : E} : ev F env (.bin o a b) = (ev F env a).bind fun x => (ev F env b).bind fun y => opR o x y := by simp only [ev] <;> rfl
theorem e_neg' {a : E} : ev F env (.neg a) = negR (ev F env a) := by simp only [ev] <;> rfl
theorem e_not' {a : E} : ev F env (.not a) = notR (ev F env a) := by simp only [ev] <;> rfl
theorem e_and' {es : Es} : ev F env (.and es) = evAnd F env es := by simp only [ev] <;> rfl
theorem e_or' {es : Es} : ev F env (.or es) = evOr F env es := by simp only [ev] <;> rfl
theorem e_cmp' {o : Cm} {a b : E} : ev F env (.cmp o a b) = (ev F env a).bind fun x => (ev F env b).bind fun y => cmR o x y := by simp only [ev] <;> rfl
theorem e_cmp2' {o p : Cm} {a b c : E} : ev F env (.cmp2 o p a b c) = (ev F env a).bind fun x => (ev F env b).bind fun y => andR (cmR o x y) ((ev F env c).bind fun w => cmR p y w) := by simp only [ev] <;> rfl
theorem e_ife' {c a b : E} : ev F env (.ife c a b) = ifeR (ev F env c) (ev F env a) (ev F env b) := by simp only [ev] <;> rfl
theorem e_ix' {a i : E} : ev F env (.ix a i) = (ev F env a).bind fun x => (ev F env i).bind fun y => ixR x y := by simp only [ev] <;> rfl
theorem e_sl' {a : E} {lo hi : Eo} : ev F env (.sl a lo hi) = (ev F env a).bind fun x => (evO F env lo).bind fun l => (evO F env hi).bind fun u => slR x l u := by simp only [ev] <;> rfl
theorem e_call' {f : Nat} {es : Es} : ev F env (.call f es) = (evs F env es).bind fun ds => F f ds := by simp only [ev] <;> rfl
theorem e_bf' {f : Bf} {es : Es} : ev F env (.bf f es) = (evs F env es).bind fun ds => bfR f ds := by simp only [ev] <;> rfl
theorem e_isi' {a : E} {t : Ty} : ev F env (.isi a t) = (ev F env a).bind fun x => isiR t x := by simp only [ev] <;> rfl
theorem e_lc' {own : List Nat} {elt : E} {tg : Tg} {it : It} {c : Eo} : ev F env (.lc own elt tg it c) = (evI F env it).bind fun ds => (lcS F own elt tg c env ds).bind fun l => .ok (.list l) := by simp only [ev, lcS]
theorem es_nil : evs F env .nil = .ok [] := by simp only [evs] <;> rfl
theorem es_cons {e : E} {es : Es} : evs F env (.cons e es) = (ev F env e).bind fun x => (evs F env es).bind fun xs => .ok (x :: xs) := by simp only [evs] <;> rfl
theorem and_one {e : E} : evAnd F env (.cons e .nil) = ev F env e := by simp only [evAnd] <;> rfl
theorem and_cons {e e2 : E} {es : Es} : evAnd F env (.cons e (.cons e2 es)) = andR (ev F env e) (evAnd F env (.cons e2 es)) := by simp only [evAnd] <;> rfl
theorem or_one {e : E} : evOr F env (.cons e .nil) = ev F env e := by simp only [evOr] <;> rfl
theorem or_cons {e e2 : E} {es : Es} : evOr F env (.cons e (.cons e2 es)) = orR (ev F env e) (evOr F env (.cons e2 es)) := by simp only [evOr] <;> rfl
theorem eo_no : evO F env .no = .ok none := by simp only [evO] <;> rfl
theorem eo_yes {e : E} : evO F env (.yes e) = (ev F env e).bind fun x => match x with
    | .int i => .ok (some i)
    | _ => .bad := by simp only [evO] <;> rfl
theorem ec_no : evC F env .no = .ok true := by simp only [evC] <;> rfl
theorem ec_yes {e : E} : evC F env (.yes e) = (ev F env e).bind fun x => match x with
    | .bool b => .ok b
    | _ => .bad := by simp only [evC] <;> rfl
theorem ei_seq {e : E} : evI F env (.seq e) = (ev F env e).bind seqR := by simp only [evI] <;> rfl
theorem ei_rng1 {e : E} : evI F env (.rng1 e) = rng1R (ev F env e) := by simp only [evI] <;> rfl
theorem ei_rng2 {a b : E} : evI F env (.rng2 a b) = rng2R (ev F env a) (ev F env b) := by simp only [evI] <;> rfl
theorem ei_zip {a b : E} : evI F env (.zip a b) = (ev F env a).bind fun x => (ev F env b).bind fun y => zipR x y := by simp only [evI] <;> rfl
theorem ei_enum {e : E} : evI F env (.enum e) = (ev F env e).bind enumR := by simp only [evI] <;> rfl
theorem gv0 {d : D} : getV (.fr d :: env) 0 = .ok d := rfl
theorem gvS {x : Sl} {i : Nat} : getV (x :: env) (i + 1) = getV env i := rfl
theorem see0 : see env [] = env := rfl
end
theorem for_nil {F : Nat → List D → R D} {tg : Tg} {b : Ss} {env : List Sl} : forS F tg b [] env = .next env := rfl
theorem for_cons {F : Nat → List D → R D} {tg : Tg} {b : Ss} {d : D} {ds : List D} {env : List Sl} : forS F tg b (d :: ds) env = match (match setT env tg d with
    | .ok e2 => evSs F e2 b
    | _ => .bad) with
    | .next e => forS F tg b ds e
    | .cont e => forS F tg b ds e
    | .brk e => .next e
    | .ret x => .ret x
    | .exc c e => .exc c e
    | .bad => .bad := by
  unfold forS
  rw [forGo]
  try rfl
theorem for_step {F : Nat → List D → R D} {tg : Tg} {b : Ss} {d : D} {ds : List D} {env e2 e : List Sl} (h : setT env tg d = .ok e2) (h2 : evSs F e2 b = .next e) : forS F tg b (d :: ds) env = forS F tg b ds e := by
  rw [for_cons, h]
  dsimp only
  rw [h2]
theorem lc_nil {F : Nat → List D → R D} {own : List Nat} {elt : E} {tg : Tg} {c : Eo} {env : List Sl} : lcS F own elt tg c env [] = .ok [] := rfl
theorem fl_int {i : Int} : flatD (.int i) = true := rfl
theorem fl_bool {i : Bool} : flatD (.bool i) = true := rfl
theorem fl_str {i : Str} : flatD (.str i) = true := rfl
theorem fl_none : flatD .none = true := rfl
theorem fl_tup {l : List D} : flatD (.tuple l) = false := rfl
theorem fl_lst {l : List D} : flatD (.list l) = false := rfl
theorem bf_abs {i : Int} : bfR .abs [.int i] = .ok (.int (i.natAbs : Int)) := by
  show R.ok (PyData.int (if i < 0 then -i else i)) = _
  have e : (if i < 0 then -i else i) = (i.natAbs : Int) := by split <;> omega
  rw [e]
theorem bf_max {i j : Int} : bfR .max [.int i, .int j] = .ok (.int (max i j)) := by
  show R.ok (PyData.int (if j > i then j else i)) = _
  have e : (if j > i then j else i) = max i j := by rw [Int.max_def]; split <;> split <;> omega
  rw [e]
theorem bf_min {i j : Int} : bfR .min [.int i, .int j] = .ok (.int (min i j)) := by
  show R.ok (PyData.int (if j < i then j else i)) = _
  have e : (if j < i then j else i) = min i j := by rw [Int.min_def]; split <;> split <;> omega
  rw [e]
theorem bf_len {l : List D} : bfR .len [.list l] = .ok (.int l.length) := rfl
theorem bf_lenT {l : List D} : bfR .len [.tuple l] = .ok (.int l.length) := rfl
theorem bf_intB {b : Bool} : bfR .int [.bool b] = .ok (.int (if b then 1 else 0)) := rfl
theorem bf_int {b : Int} : bfR .int [.int b] = .ok (.int b) := rfl
theorem ix_nat {l : List D} {k : Nat} : ixR (.list l) (.int (k : Int)) = ofO (l[k]?) := by
  show ofO (L2.atI l (k : Int)) = _
  cases h : l[k]? with
  | some d => rw [L2.atI_nat h]
  | none =>
    unfold L2.atI L2.ixN
    have hk : l.length ≤ k := List.getElem?_eq_none_iff.mp h
    rw [if_pos (by omega), if_neg (by omega)]
    rfl
theorem ixT_nat {l : List D} {k : Nat} : ixR (.tuple l) (.int (k : Int)) = ofO (l[k]?) := ix_nat (l := l)
theorem ixT0 {a : D} {l : List D} : ixR (.tuple (a :: l)) (.int 0) = .ok a := ixT_nat (k := 0)
theorem ixT1 {a b : D} {l : List D} : ixR (.tuple (a :: b :: l)) (.int 1) = .ok b := ixT_nat (k := 1)
theorem ixT2 {a b c : D} {l : List D} : ixR (.tuple (a :: b :: c :: l)) (.int 2) = .ok c := ixT_nat (k := 2)
theorem ix_bool {l : List D} {n : Int} (h0 : 0 ≤ n) : ixR (.list l) (.int n) = ofO (l[n.toNat]?) := by
  have e : n = (n.toNat : Int) := by omega
  rw [e, ix_nat]
  rfl
theorem pw_10_11 : opR .pow (.int 10) (.int 11) = .ok (.int 100000000000) := rfl
theorem pw_10_12 : opR .pow (.int 10) (.int 12) = .ok (.int 1000000000000) := rfl
theorem pw_10_13 : opR .pow (.int 10) (.int 13) = .ok (.int 10000000000000) := rfl
theorem pw_10_30 : opR .pow (.int 10) (.int 30) = .ok (.int 1000000000000000000000000000000) := rfl
theorem pw_10_40 : opR .pow (.int 10) (.int 40) = .ok (.int 10000000000000000000000000000000000000000) := rfl
theorem pw_10_6 : opR .pow (.int 10) (.int 6) = .ok (.int 1000000) := rfl
theorem pw_10_9 : opR .pow (.int 10) (.int 9) = .ok (.int 1000000000) := rfl
theorem pw_2_8 : opR .pow (.int 2) (.int 8) = .ok (.int 256) := rfl
theorem pw_2_10 : opR .pow (.int 2) (.int 10) = .ok (.int 1024) := rfl
theorem pw_2_12 : opR .pow (.int 2) (.int 12) = .ok (.int 4096) := rfl
theorem pw_2_13 : opR .pow (.int 2) (.int 13) = .ok (.int 8192) := rfl
theorem pw_2_14 : opR .pow (.int 2) (.int 14) = .ok (.int 16384) := rfl
theorem pw_2_15 : opR .pow (.int 2) (.int 15) = .ok (.int 32768) := rfl
theorem pw_2_16 : opR .pow (.int 2) (.int 16) = .ok (.int 65536) := rfl
theorem pw_2_17 : opR .pow (.int 2) (.int 17) = .ok (.int 131072) := rfl
theorem pw_2_18 : opR .pow (.int 2) (.int 18) = .ok (.int 262144) := rfl
theorem pw_2_20 : opR .pow (.int 2) (.int 20) = .ok (.int 1048576) := rfl
theorem pw_2_24 : opR .pow (.int 2) (.int 24) = .ok (.int 16777216) := rfl
theorem pw_2_25 : opR .pow (.int 2) (.int 25) = .ok (.int 33554432) := rfl
theorem pw_2_27 : opR .pow (.int 2) (.int 27) = .ok (.int 134217728) := rfl
theorem pw_2_28 : opR .pow (.int 2) (.int 28) = .ok (.int 268435456) := rfl
theorem pw_2_30 : opR .pow (.int 2) (.int 30) = .ok (.int 1073741824) := rfl
theorem pw_2_32 : opR .pow (.int 2) (.int 32) = .ok (.int 4294967296) := rfl
theorem pw_2_34 : opR .pow (.int 2) (.int 34) = .ok (.int 17179869184) := rfl
theorem pw_2_36 : opR .pow (.int 2) (.int 36) = .ok (.int 68719476736) := rfl
theorem pw_2_38 : opR .pow (.int 2) (.int 38) = .ok (.int 274877906944) := rfl
theorem pw_2_40 : opR .pow (.int 2) (.int 40) = .ok (.int 1099511627776) := rfl
theorem pw_2_41 : opR .pow (.int 2) (.int 41) = .ok (.int 2199023255552) := rfl
theorem pw_2_42 : opR .pow (.int 2) (.int 42) = .ok (.int 4398046511104) := rfl
theorem pw_2_44 : opR .pow (.int 2) (.int 44) = .ok (.int 17592186044416) := rfl
theorem pw_2_50 : opR .pow (.int 2) (.int 50) = .ok (.int 1125899906842624) := rfl
theorem pw_2_54 : opR .pow (.int 2) (.int 54) = .ok (.int 18014398509481984) := rfl
theorem pw_2_56 : opR .pow (.int 2) (.int 56) = .ok (.int 72057594037927936) := rfl
theorem pw_2_60 : opR .pow (.int 2) (.int 60) = .ok (.int 1152921504606846976) := rfl

/-! ### walks with an invariant -/
theorem for_inv {F : Nat → List D → R D} {tg : Tg} {b : Ss} (I : Nat → List Sl → Prop) : ∀ (ds : List D) (k0 : Nat) {env : List Sl} (_ : I k0 env)
    (_ : ∀ k d e, ds[k]? = some d → I (k0 + k) e → ∃ e2 e3, setT e tg d = .ok e2 ∧ (evSs F e2 b = .next e3 ∨ evSs F e2 b = .cont e3) ∧ I (k0 + k + 1) e3),
    ∃ e, forS F tg b ds env = .next e ∧ I (k0 + ds.length) e
  | [], k0, env, h0, _ => ⟨env, rfl, h0⟩
  | d :: ds, k0, env, h0, h => by
    obtain ⟨e2, e3, s1, s2, s3⟩ := h 0 d env rfl h0
    have z := for_inv (F := F) (tg := tg) (b := b) I ds (k0 + 1) (env := e3) s3 (fun k x e hk hi => by
      have := h (k + 1) x e (by simpa using hk) (by rw [show k0 + (k + 1) = k0 + 1 + k from by omega]; exact hi)
      rw [show k0 + (k + 1) + 1 = k0 + 1 + k + 1 from by omega] at this
      exact this)
    obtain ⟨e, z1, z2⟩ := z
    refine ⟨e, ?_, by rw [List.length_cons, show k0 + (ds.length + 1) = k0 + 1 + ds.length from by omega]; exact z2⟩
    rw [for_cons, s1]
    dsimp only
    rcases s2 with s2 | s2 <;> rw [s2] <;> exact z1
theorem rng_ok {a b : Int} (h : -(2 ^ 62) ≤ a ∧ a < 2 ^ 62 ∧ -(2 ^ 62) ≤ b ∧ b < 2 ^ 62 ∧ b - a ≤ 1000000) : rngR a b = .ok (rngL a (b - a).toNat) := by
  unfold rngR
  rw [if_pos h]
theorem rngL_get {a : Int} {n k : Nat} {d : D} (h : (rngL a n)[k]? = some d) : k < n ∧ d = .int (a + k) := by
  unfold rngL at h
  rw [List.getElem?_map] at h
  by_cases q : k < n
  · rw [List.getElem?_range q] at h
    exact ⟨q, (Option.some.inj h).symm⟩
  · rw [List.getElem?_eq_none (by simpa using q)] at h
    cases h
theorem rngL_len {a : Int} {n : Nat} : (rngL a n).length = n := by unfold rngL; simp
theorem rng_nat {n : Nat} (h : n ≤ 1000000) : rngR 0 (n : Int) = .ok (rngL 0 n) := by
  rw [rng_ok ⟨by omega, by omega, by omega, by omega, by omega⟩]
  congr 2
/-- an item of a list that is written out -/
theorem ix_all {l : List D} {i : Int} (h0 : 0 ≤ i) (h1 : i < l.length) {P : D → Prop} (h : ∀ d, d ∈ l → P d) : ∃ d, ixR (.list l) (.int i) = .ok d ∧ P d := by
  have e : i = (i.toNat : Int) := by omega
  have q : i.toNat < l.length := by omega
  refine ⟨l[i.toNat], ?_, h _ (List.getElem_mem q)⟩
  have z : ixR (.list l) (.int (i.toNat : Int)) = .ok l[i.toNat] := by
    rw [ix_nat, List.getElem?_eq_getElem q]
    rfl
  rw [← e] at z
  exact z
theorem lay_ints : ∀ ns : List Int, PyData.canLayAll0 (ns.map PyData.int) = true
  | [] => rfl
  | _ :: r => by simp [PyData.canLayAll0, PyData.canLay0, lay_ints r]
theorem dep_ints : ∀ ns : List Int, PyData.depthAll (ns.map PyData.int) = 0
  | [] => rfl
  | _ :: r => by simp [PyData.depthAll, PyData.depth, dep_ints r]
theorem sh_ints (ns : List Int) : SeqAt.shaped (.list (ns.map PyData.int)) = true := by
  simp [SeqAt.shaped, PyData.canLay0, PyData.depth, lay_ints, dep_ints]
theorem eq_sh {a b : D} (ha : SeqAt.shaped a = true) (hb : SeqAt.shaped b = true) : cmR .eq a b = .ok (.bool (PyData.eqv a b)) := by
  show (if _ then _ else _) = _
  rw [if_pos ⟨ha, hb⟩]
theorem ne_sh {a b : D} (ha : SeqAt.shaped a = true) (hb : SeqAt.shaped b = true) : cmR .ne a b = .ok (.bool (!PyData.eqv a b)) := by
  show (if _ then _ else _) = _
  rw [if_pos ⟨ha, hb⟩]
theorem for_go {F : Nat → List D → R D} {tg : Tg} {b ss : Ss} {ds : List D} {env : List Sl} {X : Out} (I : Nat → List Sl → Prop) (h0 : I 0 env)
    (h : ∀ k d e, ds[k]? = some d → I k e → ∃ e2 e3, setT e tg d = .ok e2 ∧ (evSs F e2 b = .next e3 ∨ evSs F e2 b = .cont e3) ∧ I (k + 1) e3)
    (hf : ∀ e, I ds.length e → evSs F e ss = X) : goSs F ss (forS F tg b ds env) = X := by
  obtain ⟨e, z1, z2⟩ := for_inv (F := F) (tg := tg) (b := b) I ds 0 h0 (fun k d e hd hi => by
    rw [Nat.zero_add] at hi ⊢
    exact h k d e hd hi)
  rw [Nat.zero_add] at z2
  rw [z1, goSs_next]
  exact hf e z2
/-- what goes on, with something kept -/
def Nx (P : List Sl → Prop) (o : Out) : Prop := ∃ e, (o = .next e ∨ o = .cont e) ∧ P e
theorem Nx.next {P : List Sl → Prop} {e : List Sl} (h : P e) : Nx P (.next e) := ⟨e, .inl rfl, h⟩
theorem Nx.cont {P : List Sl → Prop} {e : List Sl} (h : P e) : Nx P (.cont e) := ⟨e, .inr rfl, h⟩
theorem for_post {F : Nat → List D → R D} {tg : Tg} {b ss : Ss} {ds : List D} {env : List Sl} {Q : Out → Prop} (I : Nat → List Sl → Prop) (h0 : I 0 env)
    (h : ∀ k d e, ds[k]? = some d → I k e → ∃ e2, setT e tg d = .ok e2 ∧ Nx (I (k + 1)) (evSs F e2 b))
    (hf : ∀ e, I ds.length e → Q (evSs F e ss)) : Q (goSs F ss (forS F tg b ds env)) := by
  obtain ⟨e, z1, z2⟩ := for_inv (F := F) (tg := tg) (b := b) I ds 0 h0 (fun k d e hd hi => by
    rw [Nat.zero_add] at hi ⊢
    obtain ⟨e2, s1, e3, s2, s3⟩ := h k d e hd hi
    exact ⟨e2, e3, s1, s2, s3⟩)
  rw [Nat.zero_add] at z2
  rw [z1, goSs_next]
  exact hf e z2
/-- goes on, for certain to the next row -/
def Nt (P : List Sl → Prop) (o : Out) : Prop := ∃ e, o = .next e ∧ P e
theorem Nt.mk {P : List Sl → Prop} {e : List Sl} (h : P e) : Nt P (.next e) := ⟨e, rfl, h⟩
theorem go_join {F : Nat → List D → R D} {Q : Out → Prop} {o : Out} {ss : Ss} (J : List Sl → Prop) (h : Nt J o) (hf : ∀ e, J e → Q (evSs F e ss)) : Q (goSs F ss o) := by
  obtain ⟨e, rfl, h⟩ := h
  exact hf e h
/-! ### comprehensions -/
def consR (a : R (Option D)) (r : R (List D)) : R (List D) := match a with
  | .ok o => (match r with
    | .ok r => .ok (match o with | some x => x :: r | none => r)
    | _ => .bad)
  | _ => .bad
theorem consR_s {x : D} {r : List D} : consR (.ok (some x)) (.ok r) = .ok (x :: r) := rfl
theorem consR_n {r : List D} : consR (.ok none) (.ok r) = .ok r := rfl
theorem lc_cons {F : Nat → List D → R D} {own : List Nat} {elt : E} {tg : Tg} {c : Eo} {env : List Sl} {d : D} {ds : List D} : lcS F own elt tg c env (d :: ds) = consR ((setT (wipeE env own) tg d).bind fun e2 => (evC F e2 c).bind fun b => if b = true then (ev F e2 elt).bind fun x => .ok (some x) else .ok none) (lcS F own elt tg c env ds) := by
  unfold lcS
  rw [lcGo]
  try rfl
/-- a comprehension without a test, item by item -/
theorem lc_map {F : Nat → List D → R D} {own : List Nat} {elt : E} {tg : Tg} {env : List Sl} (f : D → D) : ∀ {ds : List D}, (∀ d ∈ ds, ∃ e2, setT (wipeE env own) tg d = .ok e2 ∧ ev F e2 elt = .ok (f d)) → lcS F own elt tg .no env ds = .ok (ds.map f)
  | [], _ => lc_nil
  | d :: ds, h => by
    obtain ⟨e2, h1, h2⟩ := h d List.mem_cons_self
    rw [lc_cons, h1, lc_map f fun d hd => h d (List.mem_cons_of_mem _ hd)]
    simp only [bind_ok, ec_no, if_true, h2, consR_s, List.map_cons]
theorem bf_all {l : List D} : bfR .all [.list l] = (ofO (blsOf l)).bind fun bs => .ok (.bool (bs.all id)) := rfl
theorem bf_any {l : List D} : bfR .any [.list l] = (ofO (blsOf l)).bind fun bs => .ok (.bool (bs.any id)) := rfl
theorem bf_sum {l : List D} : bfR .sum [.list l] = (ofO (intsOf l)).bind fun bs => .ok (.int bs.sum) := rfl
theorem bf_tup {l : List D} : bfR .tuple [.list l] = .ok (.tuple l) := rfl
theorem ofO_some {A : Type} {a : A} : ofO (some a) = .ok a := rfl
theorem bls_nil : blsOf [] = some [] := rfl
theorem bls_cons {b : Bool} {l : List D} : blsOf (.bool b :: l) = (blsOf l).map fun r => b :: r := rfl
theorem ints_nil : intsOf [] = some [] := rfl
theorem ints_cons {b : Int} {l : List D} : intsOf (.int b :: l) = (intsOf l).map fun r => b :: r := rfl
theorem seq_lst {l : List D} : seqR (.list l) = .ok l := rfl
theorem seq_tup {l : List D} : seqR (.tuple l) = .ok l := rfl
theorem ixL0 {a : D} {l : List D} : ixR (.list (a :: l)) (.int 0) = .ok a := ix_nat (k := 0)
theorem ixL1 {a b : D} {l : List D} : ixR (.list (a :: b :: l)) (.int 1) = .ok b := ix_nat (k := 1)
theorem ixL2 {a b c : D} {l : List D} : ixR (.list (a :: b :: c :: l)) (.int 2) = .ok c := ix_nat (k := 2)
theorem ixL3 {a b c d : D} {l : List D} : ixR (.list (a :: b :: c :: d :: l)) (.int 3) = .ok d := ix_nat (k := 3)
theorem isi_bi {i : Int} : isiR .bool (.int i) = .ok (.bool false) := rfl
theorem isi_bb {i : Bool} : isiR .bool (.bool i) = .ok (.bool true) := rfl
theorem isi_ii {i : Int} : isiR .int (.int i) = .ok (.bool true) := rfl
theorem isi_ib {i : Bool} : isiR .int (.bool i) = .ok (.bool true) := rfl
theorem isi_tt {l : List D} : isiR .tuple (.tuple l) = .ok (.bool true) := rfl
/-! ### lists of one's own -/
def see1 (env : List Sl) (i : Nat) : List Sl := match env[i]? with
  | some (.ow ds) => env.set i (.fr (.list ds))
  | _ => env
theorem see_cons {env : List Sl} {i : Nat} {l : List Nat} : see env (i :: l) = see (see1 env i) l := by
  rw [see]
  try rfl
theorem see1_ow {env : List Sl} {ds : List D} : see1 (.ow ds :: env) 0 = .fr (.list ds) :: env := rfl
theorem see1_fr {env : List Sl} {d : D} : see1 (.fr d :: env) 0 = .fr d :: env := rfl
theorem see1_no {env : List Sl} : see1 (.no :: env) 0 = .no :: env := rfl
theorem see1_S {env : List Sl} {x : Sl} {i : Nat} : see1 (x :: env) (i + 1) = x :: see1 env i := by
  unfold see1
  rw [List.getElem?_cons_succ]
  cases env[i]? with
  | none => rfl
  | some y => cases y <;> rfl
def owOf (env : List Sl) (i : Nat) : Option (List D) := match env[i]? with
  | some (.ow ds) => some ds
  | _ => none
theorem ow_0 {env : List Sl} {ds : List D} : owOf (.ow ds :: env) 0 = some ds := rfl
theorem ow_S {env : List Sl} {x : Sl} {i : Nat} : owOf (x :: env) (i + 1) = owOf env i := rfl
def appO (o : Option (List D)) (env env2 : List Sl) (i : Nat) (r : R D) : Out := match o with
  | some ds => onR env r fun d => if ds.length < sizeLine then .next (env2.set i (.ow (ds ++ [d]))) else .bad
  | none => .bad
theorem s_app' {F : Nat → List D → R D} {env : List Sl} {i : Nat} {ms : List Nat} {e : E} : evS F env (.app i ms e) = appO (owOf env i) env (see env ms) i (ev F (see env ms) e) := by
  simp only [evS] <;> (unfold owOf appO; (cases env[i]? with
  | none => rfl
  | some y => cases y <;> rfl))
theorem app_some {env env2 : List Sl} {ds : List D} {i : Nat} {d : D} : appO (some ds) env env2 i (.ok d) = if ds.length < sizeLine then .next (env2.set i (.ow (ds ++ [d]))) else .bad := rfl
theorem app_exc {env env2 : List Sl} {ds : List D} {i : Nat} {c : Str} : appO (some ds) env env2 i (.exc c) = .exc c env := rfl
def asgLO (i : Nat) (env : List Sl) : D → Out
  | .list ds => .next (env.set i (.ow ds))
  | _ => .bad
theorem s_asgL2 {F : Nat → List D → R D} {env : List Sl} {i : Nat} {ms : List Nat} {e : E} : evS F env (.asgL i ms e) = onR env (ev F (see env ms) e) (asgLO i (see env ms)) := by
  rw [s_asgL']
  congr 1 <;> (funext d; cases d <;> rfl)
theorem asgL_ok {i : Nat} {env : List Sl} {ds : List D} : asgLO i env (.list ds) = .next (env.set i (.ow ds)) := rfl
/-! ### turned about, the greatest, words of a dict, an item put in another's place -/
theorem e_rev' {F : Nat → List D → R D} {env : List Sl} {a : E} : ev F env (.rev a) = (ev F env a).bind revR := by simp only [ev] <;> rfl
theorem e_lens' {F : Nat → List D → R D} {env : List Sl} {a : E} : ev F env (.lens a) = (ev F env a).bind lensR := by simp only [ev] <;> rfl
theorem e_lcx' {F : Nat → List D → R D} {env : List Sl} {own : List Nat} {elt : E} {tg : Tg} {it : It} : ev F env (.lcx own elt tg it) = (evI F env it).bind fun ds => (lcGoX (fun d => (setT (wipeE env own) tg d).bind fun e2 => ev F e2 elt) ds).bind fun l => .ok (.list l) := by simp only [ev] <;> rfl
theorem e_orv' {F : Nat → List D → R D} {env : List Sl} {a b : E} : ev F env (.orv a b) = (ev F env a).bind fun x => match truD x with | some true => .ok x | some false => ev F env b | none => .bad := by simp only [ev] <;> rfl
theorem e_cnt' {F : Nat → List D → R D} {env : List Sl} {i : Nat} {b : E} : ev F env (.cnt i b) = (getV env i).bind fun x => (lstR x).bind fun l => (ev F env b).bind fun y => cntR l y := by simp only [ev] <;> rfl
theorem e_mx0' {F : Nat → List D → R D} {env : List Sl} {a : E} : ev F env (.mx0 a) = (ev F env a).bind mx0R := by simp only [ev] <;> rfl
theorem e_ins' {F : Nat → List D → R D} {env : List Sl} {a : E} {j : Nat} : ev F env (.ins a j) = (ev F env a).bind (insR j) := by simp only [ev] <;> rfl
theorem rev_lst {l : List D} : revR (.list l) = .ok (.list l.reverse) := rfl
theorem mx0_lst {l : List D} : mx0R (.list l) = (ofO (intsOf l)).bind fun ns => .ok (.int (mxL ns)) := rfl
def setCO (o : Option (List D)) (env : List Sl) (i a b : Nat) : Out := match o with
  | some ds => (match ds[b]? with
    | some d => if a < ds.length then .next (env.set i (.ow (ds.set a d))) else .bad
    | none => .bad)
  | none => .bad
theorem s_setC' {F : Nat → List D → R D} {env : List Sl} {i a b : Nat} : evS F env (.setC i a b) = setCO (owOf env i) env i a b := by
  simp only [evS] <;> (unfold owOf setCO; (cases env[i]? with
  | none => rfl
  | some y => cases y <;> rfl))
theorem setC_some {env : List Sl} {ds : List D} {i a b : Nat} {d : D} (h : ds[b]? = some d) (ha : a < ds.length) : setCO (some ds) env i a b = .next (env.set i (.ow (ds.set a d))) := by
  unfold setCO
  dsimp only
  rw [h]
  dsimp only
  rw [if_pos ha]
end Cw

set_option Elab.async false
set_option linter.all false
set_option maxRecDepth 100000
set_option maxHeartbeats 4000000
namespace Cw
open PySem

local macro_rules | `(tactic| walk_at "cw") => `(tactic| simp -implicitDefEqProofs only [ss_nil, ss_cons, goSs_next, goSs_ret, goSs_exc, goSs_brk, goSs_cont, s_asg', s_asgL2, asgL_ok, see_cons, see1_ow, see1_fr, see1_no, see1_S, ow_0, ow_S, s_app', app_some, app_exc, s_asgT', s_par', s_ret', s_iff', s_whl', s_for', s_rais', s_expr', s_brk', s_cont', s_pass', s_try', s_tryW', tryW_ret, tryW_next, tryW_exc, tryN_ret, tryN_next, tryN_exc,
  e_k, e_v, e_g, e_tup', e_lst', e_bin', e_neg', e_not', e_and', e_or', e_cmp', e_cmp2', e_ife', e_ix', e_sl', e_call', e_bf', e_isi', e_lc', es_nil, es_cons, and_one, and_cons, or_one, or_cons, eo_no, eo_yes, ec_no, ec_yes, ei_seq, ei_rng1, ei_rng2, ei_zip, ei_enum,
  gv0, gvS, see0, fl_int, fl_bool, fl_str, fl_none, fl_tup, fl_lst, bind_ok, bind_bad, bind_exc, onR_ok, onR_exc, onR_bad, toB_bool, toB_exc, eq_int, ne_int, lt_int', le_int', gt_int', ge_int', add_int', sub_int', bf_abs, bf_max, bf_min, bf_len, bf_lenT, bf_int, bf_intB,
  startE, List.map_cons, List.map_nil, List.length_cons, List.length_map, List.length_nil, List.cons_append, List.nil_append, List.set_cons_zero, List.set_cons_succ, List.replicate, Nat.sub_self, Nat.reduceSub, Nat.reduceAdd, if_true, if_false, Bool.false_eq_true, reduceIte, ixT0, ixT1, ixT2, outR_ret, outR_next, outR_exc, setT, setMany, wipeE, rng1_ok, rng2_ok, not_ok, neg_ok, and_t, and_f, and_ok, and_x, or_t, or_f, or_ok, or_x, ife_b, Bool.not_true, Bool.not_false, Bool.true_and, Bool.and_true, Bool.false_and, Bool.and_false, Bool.true_or, Bool.or_true, Bool.false_or, Bool.or_false, decide_true, decide_false, beq_self_eq_true, Int.reduceBEq, Int.reduceLT, Int.reduceLE, Int.reduceAdd, Int.reduceSub, Int.reduceNeg, Int.cast_ofNat_Int, ite_self, lc_nil, lc_cons, consR_s, consR_n, bf_all, bf_any, bf_sum, bf_tup, ofO_some, bls_nil, bls_cons, ints_nil, ints_cons, Option.map_some, seq_lst, seq_tup, ixL0, ixL1, ixL2, ixL3, isi_bi, isi_bb, isi_ii, isi_ib, isi_tt, List.all_cons, List.all_nil, id, pw_10_11, pw_10_12, pw_10_13, pw_10_30, pw_10_40, pw_10_6, pw_10_9, pw_2_8, pw_2_10, pw_2_12, pw_2_13, pw_2_14, pw_2_15, pw_2_16, pw_2_17, pw_2_18, pw_2_20, pw_2_24, pw_2_25, pw_2_27, pw_2_28, pw_2_30, pw_2_32, pw_2_34, pw_2_36, pw_2_38, pw_2_40, pw_2_41, pw_2_42, pw_2_44, pw_2_50, pw_2_54, pw_2_56, pw_2_60])
local macro_rules | `(tactic| walk_at "cw*") => `(tactic| simp -implicitDefEqProofs only [*, ss_nil, ss_cons, goSs_next, goSs_ret, goSs_exc, goSs_brk, goSs_cont, s_asg', s_asgL2, asgL_ok, see_cons, see1_ow, see1_fr, see1_no, see1_S, ow_0, ow_S, s_app', app_some, app_exc, s_asgT', s_par', s_ret', s_iff', s_whl', s_for', s_rais', s_expr', s_brk', s_cont', s_pass', s_try', s_tryW', tryW_ret, tryW_next, tryW_exc, tryN_ret, tryN_next, tryN_exc,
  e_k, e_v, e_g, e_tup', e_lst', e_bin', e_neg', e_not', e_and', e_or', e_cmp', e_cmp2', e_ife', e_ix', e_sl', e_call', e_bf', e_isi', e_lc', es_nil, es_cons, and_one, and_cons, or_one, or_cons, eo_no, eo_yes, ec_no, ec_yes, ei_seq, ei_rng1, ei_rng2, ei_zip, ei_enum,
  gv0, gvS, see0, fl_int, fl_bool, fl_str, fl_none, fl_tup, fl_lst, bind_ok, bind_bad, bind_exc, onR_ok, onR_exc, onR_bad, toB_bool, toB_exc, eq_int, ne_int, lt_int', le_int', gt_int', ge_int', add_int', sub_int', bf_abs, bf_max, bf_min, bf_len, bf_lenT, bf_int, bf_intB,
  startE, List.map_cons, List.map_nil, List.length_cons, List.length_map, List.length_nil, List.cons_append, List.nil_append, List.set_cons_zero, List.set_cons_succ, List.replicate, Nat.sub_self, Nat.reduceSub, Nat.reduceAdd, if_true, if_false, Bool.false_eq_true, reduceIte, ixT0, ixT1, ixT2, outR_ret, outR_next, outR_exc, setT, setMany, wipeE, rng1_ok, rng2_ok, not_ok, neg_ok, and_t, and_f, and_ok, and_x, or_t, or_f, or_ok, or_x, ife_b, Bool.not_true, Bool.not_false, Bool.true_and, Bool.and_true, Bool.false_and, Bool.and_false, Bool.true_or, Bool.or_true, Bool.false_or, Bool.or_false, decide_true, decide_false, beq_self_eq_true, Int.reduceBEq, Int.reduceLT, Int.reduceLE, Int.reduceAdd, Int.reduceSub, Int.reduceNeg, Int.cast_ofNat_Int, ite_self, lc_nil, lc_cons, consR_s, consR_n, bf_all, bf_any, bf_sum, bf_tup, ofO_some, bls_nil, bls_cons, ints_nil, ints_cons, Option.map_some, seq_lst, seq_tup, ixL0, ixL1, ixL2, ixL3, isi_bi, isi_bb, isi_ii, isi_ib, isi_tt, List.all_cons, List.all_nil, id, pw_10_11, pw_10_12, pw_10_13, pw_10_30, pw_10_40, pw_10_6, pw_10_9, pw_2_8, pw_2_10, pw_2_12, pw_2_13, pw_2_14, pw_2_15, pw_2_16, pw_2_17, pw_2_18, pw_2_20, pw_2_24, pw_2_25, pw_2_27, pw_2_28, pw_2_30, pw_2_32, pw_2_34, pw_2_36, pw_2_38, pw_2_40, pw_2_41, pw_2_42, pw_2_44, pw_2_50, pw_2_54, pw_2_56, pw_2_60])
def d_common : Def := ⟨2, 2, (.cons (.par 0 1 [] (.bf .abs (.cons (.v 0) .nil)) (.bf .abs (.cons (.v 1) .nil))) (.cons (.whl [] (.cmp .ne (.v 1) (.k (.int 0))) (.cons (.par 0 1 [] (.v 1) (.bin .mod (.v 0) (.v 1))) .nil)) (.cons (.ret [] (.v 0)) .nil)))⟩
def d_fraction : Def := ⟨2, 3, (.cons (.iff [] (.cmp .eq (.v 1) (.k (.int 0))) (.cons (.rais "NoFraction") .nil) .nil) (.cons (.asg 2 [] (.call 10 (.cons (.v 0) (.cons (.v 1) .nil)))) (.cons (.iff [] (.cmp .lt (.v 1) (.k (.int 0))) (.cons (.asg 2 [] (.bin .sub (.k (.int 0)) (.v 2))) .nil) .nil) (.cons (.ret [] (.tup (.cons (.bin .fdiv (.v 0) (.v 2)) (.cons (.bin .fdiv (.v 1) (.v 2)) .nil)))) .nil))))⟩
def d_is_whole : Def := ⟨1, 1, (.cons (.ret [] (.and (.cons (.isi (.v 0) .int) (.cons (.not (.isi (.v 0) .bool)) .nil)))) .nil)⟩
def d_is_fraction : Def := ⟨1, 1, (.cons (.iff [] (.or (.cons (.not (.isi (.v 0) .tuple)) (.cons (.cmp .ne (.bf .len (.cons (.v 0) .nil)) (.k (.int 2))) (.cons (.not (.call 12 (.cons (.ix (.v 0) (.k (.int 0))) .nil))) (.cons (.not (.call 12 (.cons (.ix (.v 0) (.k (.int 1))) .nil))) .nil))))) (.cons (.ret [] (.k (.bool false))) .nil) .nil) (.cons (.ret [] (.and (.cons (.cmp .gt (.ix (.v 0) (.k (.int 1))) (.k (.int 0))) (.cons (.cmp .eq (.call 10 (.cons (.ix (.v 0) (.k (.int 0))) (.cons (.ix (.v 0) (.k (.int 1))) .nil))) (.k (.int 1))) .nil)))) .nil))⟩
def d_opposite : Def := ⟨1, 1, (.cons (.ret [] (.tup (.cons (.bin .sub (.k (.int 0)) (.ix (.v 0) (.k (.int 0)))) (.cons (.ix (.v 0) (.k (.int 1))) .nil)))) .nil)⟩
def d_down_to : Def := ⟨2, 3, (.cons (.asg 2 [] (.bin .shl (.k (.int 1)) (.v 1))) (.cons (.ret [] (.call 11 (.cons (.bin .fdiv (.bin .mul (.ix (.v 0) (.k (.int 0))) (.v 2)) (.ix (.v 0) (.k (.int 1)))) (.cons (.v 2) .nil)))) .nil))⟩
def d_up_to : Def := ⟨2, 2, (.cons (.ret [] (.call 14 (.cons (.call 15 (.cons (.call 14 (.cons (.v 0) .nil)) (.cons (.v 1) .nil))) .nil))) .nil)⟩
def d_plus : Def := ⟨2, 2, (.cons (.ret [] (.call 11 (.cons (.bin .add (.bin .mul (.ix (.v 0) (.k (.int 0))) (.ix (.v 1) (.k (.int 1)))) (.bin .mul (.ix (.v 1) (.k (.int 0))) (.ix (.v 0) (.k (.int 1))))) (.cons (.bin .mul (.ix (.v 0) (.k (.int 1))) (.ix (.v 1) (.k (.int 1)))) .nil)))) .nil)⟩
def d_minus : Def := ⟨2, 2, (.cons (.ret [] (.call 17 (.cons (.v 0) (.cons (.call 14 (.cons (.v 1) .nil)) .nil)))) .nil)⟩
def d_times : Def := ⟨2, 2, (.cons (.ret [] (.call 11 (.cons (.bin .mul (.ix (.v 0) (.k (.int 0))) (.ix (.v 1) (.k (.int 0)))) (.cons (.bin .mul (.ix (.v 0) (.k (.int 1))) (.ix (.v 1) (.k (.int 1)))) .nil)))) .nil)⟩
def d_over : Def := ⟨2, 2, (.cons (.ret [] (.call 11 (.cons (.bin .mul (.ix (.v 0) (.k (.int 0))) (.ix (.v 1) (.k (.int 1)))) (.cons (.bin .mul (.ix (.v 0) (.k (.int 1))) (.ix (.v 1) (.k (.int 0)))) .nil)))) .nil)⟩
def d_power : Def := ⟨2, 5, (.cons (.asg 2 [] (.k (.int 1))) (.cons (.asg 3 [] (.k (.int 1))) (.cons (.for_ [] (.one 4) (.rng1 (.v 1)) (.cons (.asg 2 [] (.bin .mul (.v 2) (.ix (.v 0) (.k (.int 0))))) (.cons (.asg 3 [] (.bin .mul (.v 3) (.ix (.v 0) (.k (.int 1))))) .nil))) (.cons (.ret [] (.tup (.cons (.v 2) (.cons (.v 3) .nil)))) .nil))))⟩
def d_order_of : Def := ⟨2, 4, (.cons (.asg 2 [] (.bin .mul (.ix (.v 0) (.k (.int 0))) (.ix (.v 1) (.k (.int 1))))) (.cons (.asg 3 [] (.bin .mul (.ix (.v 1) (.k (.int 0))) (.ix (.v 0) (.k (.int 1))))) (.cons (.ret [] (.bin .sub (.bf .int (.cons (.cmp .gt (.v 2) (.v 3)) .nil)) (.bf .int (.cons (.cmp .lt (.v 2) (.v 3)) .nil)))) .nil)))⟩
def d_law_cell : Def := ⟨2, 2, (.cons (.iff [] (.cmp .eq (.v 0) (.lst .nil)) (.cons (.ret [] (.bin .mul (.v 1) (.k (.int 7919)))) .nil) .nil) (.cons (.ret [] (.bin .add (.ix (.v 0) (.bin .mod (.v 1) (.bf .len (.cons (.v 0) .nil)))) (.bin .mul (.bin .fdiv (.v 1) (.bf .len (.cons (.v 0) .nil))) (.k (.int 104729))))) .nil))⟩
def d_law_drawn : Def := ⟨2, 3, (.cons (.asg 2 [] (.bin .mod (.bin .add (.bin .mul (.v 0) (.k (.int 6364136223846793005))) (.bin .mul (.bin .add (.v 1) (.k (.int 1))) (.k (.int 1442695040888963407)))) (.k (.int 340282366920938463463374607431768211507)))) (.cons (.asg 2 [] (.bin .mod (.bin .mul (.v 2) (.v 2)) (.k (.int 340282366920938463463374607431768211297)))) (.cons (.asg 2 [] (.bin .mul (.bin .mul (.bin .add (.bin .mod (.v 2) (.k (.int 18446744073709551557))) (.k (.int 1))) (.bin .add (.bin .fdiv (.v 2) (.k (.int 18446744073709551557))) (.k (.int 1)))) (.v 2))) (.cons (.ret [] (.bin .mod (.v 2) (.k (.int 340282366920938463463374607431768211507)))) .nil))))⟩
def d_law_made : Def := ⟨2, 4, (.cons (.par 2 3 [] (.bf .abs (.cons (.v 0) .nil)) (.v 1)) (.cons (.whl [] (.cmp .gt (.v 3) (.k (.int 0))) (.cons (.par 2 3 [] (.v 3) (.bin .mod (.v 2) (.v 3))) .nil)) (.cons (.ret [] (.tup (.cons (.bin .fdiv (.v 0) (.v 2)) (.cons (.bin .fdiv (.v 1) (.v 2)) .nil)))) .nil)))⟩
def d_law_fraction : Def := ⟨1, 2, (.cons (.asg 1 [] (.ix (.lst (.cons (.bin .sub (.bin .mod (.v 0) (.k (.int 13))) (.k (.int 6))) (.cons (.bin .sub (.bin .mod (.v 0) (.k (.int 2001))) (.k (.int 1000))) (.cons (.k (.int 0)) (.cons (.bin .sub (.bin .mod (.v 0) (.bin .mul (.k (.int 2)) (.bin .pow (.k (.int 10)) (.k (.int 11))))) (.bin .pow (.k (.int 10)) (.k (.int 11)))) .nil))))) (.bin .mod (.bin .fdiv (.v 0) (.bin .pow (.k (.int 2)) (.k (.int 40)))) (.k (.int 4))))) (.cons (.ret [] (.call 1002 (.cons (.v 1) (.cons (.ix (.lst (.cons (.k (.int 1)) (.cons (.bin .add (.k (.int 1)) (.bin .mod (.bin .fdiv (.v 0) (.bin .pow (.k (.int 2)) (.k (.int 42)))) (.k (.int 9)))) (.cons (.bin .add (.k (.int 1)) (.bin .mod (.bin .fdiv (.v 0) (.bin .pow (.k (.int 2)) (.k (.int 42)))) (.k (.int 1000)))) .nil)))) (.bin .mod (.bin .fdiv (.v 0) (.bin .pow (.k (.int 2)) (.k (.int 56)))) (.k (.int 3)))) .nil)))) .nil))⟩
def b1 : List (Nat × Def) := [(10, d_common), (11, d_fraction), (12, d_is_whole), (13, d_is_fraction), (14, d_opposite), (15, d_down_to), (16, d_up_to), (17, d_plus), (18, d_minus), (19, d_times), (20, d_over), (21, d_power), (22, d_order_of), (1000, d_law_cell), (1001, d_law_drawn), (1002, d_law_made), (1003, d_law_fraction)]
theorem gcd_loop {F : Nat → List D → R D} : ∀ (y x : Nat), whlS F [] (.cmp .ne (.v 1) (.k (.int 0))) (.cons (.par 0 1 [] (.v 1) (.bin .mod (.v 0) (.v 1))) .nil) [.fr (.int x), .fr (.int y)] = .next [.fr (.int (Nat.gcd x y)), .fr (.int 0)] := by
  intro y
  induction y using Nat.strongRecOn with
  | ind y ih =>
    intro x
    unfold whlS
    by_cases h : y = 0
    · subst h
      rw [whl_stop (by rfl)]
      simp
    · have hm : opR .mod (.int (x : Int)) (.int (y : Int)) = .ok (.int ((x % y : Nat) : Int)) := by
        rw [mod_pos (by omega)]; rfl
      have hy : ((y : Int) == 0) = false := by simpa using h
      rw [whl_next (e := [.fr (.int y), .fr (.int ((x % y : Nat) : Int))]) (by walk_at "cw"; rw [hy]; rfl) (by walk_at "cw"; rw [hm]; rfl)]
      have z := ih (x % y) (Nat.mod_lt _ (by omega)) y
      unfold whlS at z
      rw [z, Nat.gcd_comm x y, Nat.gcd_rec y x, Nat.gcd_comm]

/-! ### tables -/
def tab (l : List (Nat × Def)) (i : Nat) : Option Def := (l.find? fun p => p.1 == i).map (·.2)
class Lay (l : List (Nat × Def)) (T : Nat → Option Def) : Prop where
  ext : ∀ i d, tab l i = some d → T i = some d
theorem tab_mem {l : List (Nat × Def)} {i : Nat} {d : Def} (h : tab l i = some d) : (i, d) ∈ l := by
  unfold tab at h
  cases q : l.find? (fun p => p.1 == i) with
  | none => rw [q] at h; cases h
  | some p =>
    rw [q] at h
    have h1 := List.find?_some q
    have h2 := List.mem_of_find?_eq_some q
    have e1 : p.1 = i := by simpa using h1
    have e2 : p.2 = d := Option.some.inj h
    rw [← e1, ← e2]
    exact h2
theorem tab_of {l : List (Nat × Def)} : ∀ (_ : (l.map (·.1)).Nodup) {i : Nat} {d : Def}, (i, d) ∈ l → tab l i = some d := by
  induction l with
  | nil => intro _ i d h; cases h
  | cons p l ih =>
    intro hn i d h
    rw [List.map_cons, List.nodup_cons] at hn
    rcases List.mem_cons.mp h with h | h
    · rw [← h]; unfold tab; simp
    · have hne : p.1 ≠ i := fun e => hn.1 (by rw [e]; exact List.mem_map.mpr ⟨(i, d), h, rfl⟩)
      have := ih hn.2 h
      unfold tab at this ⊢
      rw [List.find?_cons_of_neg (by simpa using hne)]
      exact this
theorem Lay.of {l all : List (Nat × Def)} (hn : (all.map (·.1)).Nodup) (hs : ∀ p, p ∈ l → p ∈ all) : Lay l (tab all) := ⟨fun _ _ h => tab_of hn (hs _ (tab_mem h))⟩
theorem evc_b (l : List (Nat × Def)) {T : Nat → Option Def} [he : Lay l T] {n i : Nat} {d : Def} {ds : List D} (h : tab l i = some d) (hl : ds.length = d.ps) (hi : d.ini = false := by rfl) : evc T (n + 1) i ds = outR (evSs (evc T n) (startE d.sl ds) d.body) :=
  haveI : Fn T i d := ⟨he.ext i d h⟩
  evc_run hl hi
/-- a class's maker -/
theorem evc_i (l : List (Nat × Def)) {T : Nat → Option Def} [he : Lay l T] {n i : Nat} {d : Def} {ds : List D} (h : tab l i = some d) (hl : ds.length = d.ps) (hi : d.ini = true := by rfl) : evc T (n + 2) i ds = outR (evSs (evc T n) (startE d.sl ds) d.body) := by
  rw [evc_ini (he.ext i d h) hi, run_eq hl]

/-! ### sizes -/
def Sz (n : Nat) (a : Int) : Prop := a.natAbs < 2 ^ n
theorem Sz.bits {n : Nat} {a : Int} (h : Sz n a) : Builtin.Int.intBits a ≤ n := by
  unfold Builtin.Int.intBits
  split
  · exact Nat.zero_le _
  · rename_i q
    have q : a.natAbs ≠ 0 := by simpa using q
    have := (Nat.log2_lt q).mpr h
    omega
theorem mul_ok {m n : Nat} {a b : Int} (ha : Sz m a) (hb : Sz n b) (h : m + n ≤ 134217728) : MulOk a b := by
  have h1 := ha.bits
  have h2 := hb.bits
  have e : bitsLine = 134217728 := by decide
  unfold MulOk IntMulOk
  intro z
  rw [Bool.and_eq_true] at z
  have z2 := z.2
  unfold Builtin.Int.intTooBig at z2
  have z3 := of_decide_eq_true z2
  rw [e] at z3
  omega
theorem mul_sz {m n : Nat} {a b : Int} (ha : Sz m a) (hb : Sz n b) (h : m + n ≤ 134217728) : opR .mul (.int a) (.int b) = .ok (.int (a * b)) := mul_int' (mul_ok ha hb h)
theorem mul_r {a b : Int} (h : b.natAbs < 2 ^ 64) : opR .mul (.int a) (.int b) = .ok (.int (a * b)) := mul_int' (IntMulOk.of_right (intBits_le_64 (by omega) (by omega)))
theorem mul_l {a b : Int} (h : a.natAbs < 2 ^ 64) : opR .mul (.int a) (.int b) = .ok (.int (a * b)) := mul_int' (IntMulOk.of_left (intBits_le_64 (by omega) (by omega)))
theorem Sz.mono {m n : Nat} {a : Int} (h : Sz m a) (hm : m ≤ n) : Sz n a := Nat.lt_of_lt_of_le h (Nat.pow_le_pow_right (by omega) hm)
theorem Sz.mul {m n : Nat} {a b : Int} (ha : Sz m a) (hb : Sz n b) : Sz (m + n) (a * b) := by
  unfold Sz
  rw [Int.natAbs_mul, Nat.pow_add]
  exact Nat.mul_lt_mul'' ha hb
theorem Sz.add {m n k : Nat} {a b : Int} (ha : Sz m a) (hb : Sz n b) (h1 : m < k) (h2 : n < k) : Sz k (a + b) := by
  unfold Sz
  have x : a.natAbs < 2 ^ (k - 1) := ha.mono (by omega)
  have y : b.natAbs < 2 ^ (k - 1) := hb.mono (by omega)
  have e : 2 ^ k = 2 ^ (k - 1) * 2 := by rw [← Nat.pow_succ]; congr 1; omega
  omega
theorem Sz.neg {n : Nat} {a : Int} (h : Sz n a) : Sz n (-a) := by unfold Sz at *; omega
theorem Sz.le {n : Nat} {a b : Int} (h : Sz n b) (hl : a.natAbs ≤ b.natAbs) : Sz n a := Nat.lt_of_le_of_lt hl h
structure Qz (n : Nat) (q : Rat) : Prop where
  num : Sz n q.num
  den : Sz n (q.den : Int)
theorem Qz.mono {m n : Nat} {q : Rat} (h : Qz m q) (hm : m ≤ n) : Qz n q := ⟨h.num.mono hm, h.den.mono hm⟩
theorem Qz.neg {n : Nat} {q : Rat} (h : Qz n q) : Qz n (-q) := ⟨by rw [Rat.neg_num]; exact h.num.neg, h.den⟩
theorem den_pos (q : Rat) : 0 < (q.den : Int) := by have := q.den_nz; omega
theorem Qz.divInt {n : Nat} {a b : Int} (ha : Sz n a) (hb : Sz n b) (h1 : 1 ≤ n) : Qz n (Rat.divInt a b) := by
  constructor
  · rw [Rat.num_divInt]
    refine ha.le ?_
    refine Nat.le_trans (Int.natAbs_ediv_le_natAbs _ _) ?_
    rw [Int.natAbs_mul]
    have : b.sign.natAbs ≤ 1 := by rw [Int.natAbs_sign]; split <;> omega
    exact Nat.le_trans (Nat.mul_le_mul_right _ this) (by omega)
  · rw [Rat.den_divInt]
    split
    · unfold Sz; exact Nat.one_lt_two_pow (by omega)
    · refine hb.le ?_
      show b.natAbs / _ ≤ _
      exact Nat.div_le_self _ _
theorem Sz.pos {n : Nat} {a : Int} (h : Sz n a) (h0 : a ≠ 0) : 1 ≤ n := by
  unfold Sz at h
  cases n with
  | zero => simp at h; omega
  | succ n => omega
theorem Qz.one_le {n : Nat} {q : Rat} (h : Qz n q) : 1 ≤ n := h.den.pos (by have := den_pos q; omega)
theorem add_div (p q : Rat) : p + q = Rat.divInt (p.num * q.den + q.num * p.den) (p.den * q.den) := by
  rw [Rat.add_def', ← Rat.divInt_ofNat]; simp
theorem mul_div (p q : Rat) : p * q = Rat.divInt (p.num * q.num) (p.den * q.den) := by
  rw [Rat.mul_def', ← Rat.divInt_ofNat]; simp
theorem div_div (p q : Rat) : p / q = Rat.divInt (p.num * q.den) (p.den * q.num) := by
  rw [Rat.div_def, Rat.inv_def]
  conv => lhs; rw [← Rat.num_divInt_den p]
  rw [Rat.divInt_mul_divInt]
theorem Qz.add {m n : Nat} {p q : Rat} (h : Qz m p) (g : Qz n q) : Qz (m + n + 1) (p + q) := by
  rw [add_div]
  exact Qz.divInt (Sz.add (h.num.mul g.den) (g.num.mul h.den) (by omega) (by omega)) ((h.den.mul g.den).mono (by omega)) (by omega)
theorem Qz.sub {m n : Nat} {p q : Rat} (h : Qz m p) (g : Qz n q) : Qz (m + n + 1) (p - q) := by
  rw [Rat.sub_eq_add_neg]; exact h.add g.neg
theorem Qz.mul {m n : Nat} {p q : Rat} (h : Qz m p) (g : Qz n q) : Qz (m + n) (p * q) := by
  rw [mul_div]
  exact Qz.divInt (h.num.mul g.num) (h.den.mul g.den) (by have := h.one_le; omega)
theorem Qz.div {m n : Nat} {p q : Rat} (h : Qz m p) (g : Qz n q) : Qz (m + n) (p / q) := by
  rw [div_div]
  exact Qz.divInt (h.num.mul g.den) (h.den.mul g.num) (by have := h.one_le; omega)
theorem Sz.pow {n : Nat} {a : Int} (h : Sz n a) : ∀ k, Sz (n * k + 1) (a ^ k)
  | 0 => by unfold Sz; simp
  | k + 1 => by
    rw [Int.pow_succ]
    exact ((Sz.pow h k).mul h).mono (by rw [Nat.mul_add]; omega)
theorem Qz.pow {n : Nat} {q : Rat} (h : Qz n q) (k : Nat) : Qz (n * k + 1) (q ^ k) := by
  constructor
  · rw [Rat.num_pow]; exact h.num.pow k
  · rw [Rat.den_pow, Int.natCast_pow]; exact h.den.pow k

/-! ### fractions -/
def fr (q : Rat) : D := .tuple [.int q.num, .int q.den]
theorem fl_fr {q : Rat} : flatD (fr q) = false := rfl
theorem ix_fr0 {q : Rat} : ixR (fr q) (.int 0) = .ok (.int q.num) := rfl
theorem ix_fr1 {q : Rat} : ixR (fr q) (.int 1) = .ok (.int q.den) := rfl
theorem sh_fr (q : Rat) : SeqAt.shaped (fr q) = true := rfl
theorem eqv_fr (p q : Rat) : PyData.eqv (fr p) (fr q) = decide (p = q) := by
  have e : PyData.eqv (fr p) (fr q) = ((p.num == q.num) && (((p.den : Int) == (q.den : Int)) && true)) := rfl
  rw [e, Bool.and_true]
  by_cases h : p = q
  · subst h; simp
  · rw [decide_eq_false h]
    cases h1 : (p.num == q.num) with
    | false => rfl
    | true =>
      cases h2 : ((p.den : Int) == (q.den : Int)) with
      | false => rfl
      | true =>
        exact (h (Rat.ext (by simpa using h1) (by have : (p.den : Int) = q.den := by simpa using h2
                                                  omega))).elim
theorem eq_fr (p q : Rat) : cmR .eq (fr p) (fr q) = .ok (.bool (decide (p = q))) := by rw [eq_sh (sh_fr p) (sh_fr q), eqv_fr]
theorem ne_fr (p q : Rat) : cmR .ne (fr p) (fr q) = .ok (.bool (!decide (p = q))) := by rw [ne_sh (sh_fr p) (sh_fr q), eqv_fr]
def ordR (p q : Rat) : Int := if p < q then -1 else if q < p then 1 else 0
section
variable {T : Nat → Option Def} [Lay b1 T]
theorem common_ok (n : Nat) (a b : Int) : evc T (n + 1) 10 [.int a, .int b] = .ok (.int (Int.gcd a b)) := by
  rw [evc_b b1 rfl rfl]
  unfold d_common
  walk_at "cw"
  rw [gcd_loop]
  walk_at "cw"
  try rfl
theorem fraction_no (n : Nat) (t : Int) : evc T (n + 2) 11 [.int t, .int 0] = .exc "NoFraction" := by
  rw [evc_b b1 rfl rfl]
  unfold d_fraction
  walk_at "cw"
theorem fraction_ok (n : Nat) (t : Int) {u : Int} (hu : u ≠ 0) : evc T (n + 2) 11 [.int t, .int u] = .ok (fr (Rat.divInt t u)) := by
  have h0 : (u == 0) = false := by simpa using hu
  have hg : (Int.gcd t u : Int) ≠ 0 := by
    have := Int.gcd_pos_of_ne_zero_right t hu
    omega
  have d1 : (Int.gcd t u : Int) ∣ t := Int.gcd_dvd_left ..
  have d2 : (Int.gcd t u : Int) ∣ u := Int.gcd_dvd_right ..
  have e1 : (Rat.divInt t u).num = u.sign * t / (Int.gcd t u : Int) := by rw [Rat.num_divInt, Int.gcd_comm]
  have e2 : ((Rat.divInt t u).den : Int) = (u.natAbs : Int) / (Int.gcd t u : Int) := by
    rw [Rat.den_divInt, if_neg hu, Int.gcd_comm]; rfl
  rw [evc_b b1 rfl rfl]
  unfold d_fraction fr
  rw [e1, e2]
  clear e1 e2
  by_cases hn : u < 0
  · have hc := common_ok (T := T) n t u
    walk_at "cw*"
    rw [fdiv_int' (by omega), fdiv_int' (by omega)]
    walk_at "cw"
    rw [Int.fdiv_eq_ediv_of_dvd (by rw [Int.zero_sub]; exact Int.neg_dvd.mpr d1), Int.fdiv_eq_ediv_of_dvd (by rw [Int.zero_sub]; exact Int.neg_dvd.mpr d2), Int.zero_sub, Int.ediv_neg, Int.ediv_neg, Int.sign_eq_neg_one_of_neg hn]
    have x1 : -1 * t = -t := by omega
    have x2 : (u.natAbs : Int) = -u := by omega
    rw [x1, x2, Int.neg_ediv_of_dvd d1, Int.neg_ediv_of_dvd d2]
  · have hc := common_ok (T := T) n t u
    walk_at "cw*"
    rw [fdiv_int' (by omega), fdiv_int' (by omega)]
    walk_at "cw"
    rw [Int.fdiv_eq_ediv_of_dvd d1, Int.fdiv_eq_ediv_of_dvd d2, Int.sign_eq_one_of_pos (by omega)]
    have x2 : (u.natAbs : Int) = u := by omega
    rw [x2, Int.one_mul]
theorem is_whole_ok (n : Nat) (a : Int) : evc T (n + 1) 12 [.int a] = .ok (.bool true) := by
  rw [evc_b b1 rfl rfl]
  unfold d_is_whole
  walk_at "cw"
  try rfl
theorem is_fraction_ok (n : Nat) (q : Rat) : evc T (n + 2) 13 [fr q] = .ok (.bool true) := by
  rw [evc_b b1 rfl rfl]
  unfold d_is_fraction fr
  have h1 := den_pos q
  have h2 : Int.gcd q.num q.den = 1 := q.reduced
  have e : isiR .tuple (.tuple [.int q.num, .int q.den]) = .ok (.bool true) := rfl
  have hc := common_ok (T := T) n q.num q.den
  have h3 := fun i => is_whole_ok (T := T) n i
  walk_at "cw*"
theorem opposite_ok (n : Nat) (q : Rat) : evc T (n + 1) 14 [fr q] = .ok (fr (-q)) := by
  rw [evc_b b1 rfl rfl]
  unfold d_opposite fr
  walk_at "cw"
  rw [Int.zero_sub]
  rfl
theorem plus_ok (n : Nat) {p q : Rat} {a b : Nat} (hp : Qz a p) (hq : Qz b q) (h : a + b ≤ 134217728) : evc T (n + 3) 17 [fr p, fr q] = .ok (fr (p + q)) := by
  rw [evc_b b1 rfl rfl]
  unfold d_plus fr
  walk_at "cw"
  rw [mul_sz hp.num hq.den h, mul_sz hq.num hp.den (by omega), mul_sz hp.den hq.den h]
  walk_at "cw"
  rw [fraction_ok _ _ (Int.mul_ne_zero (Int.ne_of_gt (den_pos p)) (Int.ne_of_gt (den_pos q))), ← add_div]
  rfl
theorem minus_ok (n : Nat) {p q : Rat} {a b : Nat} (hp : Qz a p) (hq : Qz b q) (h : a + b ≤ 134217728) : evc T (n + 4) 18 [fr p, fr q] = .ok (fr (p - q)) := by
  rw [evc_b b1 rfl rfl]
  unfold d_minus
  walk_at "cw"
  rw [opposite_ok]
  walk_at "cw"
  rw [plus_ok _ hp hq.neg h, ← Rat.sub_eq_add_neg]
  rfl
theorem times_ok (n : Nat) {p q : Rat} {a b : Nat} (hp : Qz a p) (hq : Qz b q) (h : a + b ≤ 134217728) : evc T (n + 3) 19 [fr p, fr q] = .ok (fr (p * q)) := by
  rw [evc_b b1 rfl rfl]
  unfold d_times fr
  walk_at "cw"
  rw [mul_sz hp.num hq.num h, mul_sz hp.den hq.den h]
  walk_at "cw"
  rw [fraction_ok _ _ (Int.mul_ne_zero (Int.ne_of_gt (den_pos p)) (Int.ne_of_gt (den_pos q))), ← mul_div]
  rfl
theorem over_ok (n : Nat) {p q : Rat} {a b : Nat} (hp : Qz a p) (hq : Qz b q) (h : a + b ≤ 134217728) (h0 : q ≠ 0) : evc T (n + 3) 20 [fr p, fr q] = .ok (fr (p / q)) := by
  rw [evc_b b1 rfl rfl]
  unfold d_over fr
  walk_at "cw"
  rw [mul_sz hp.num hq.den h, mul_sz hp.den hq.num h]
  walk_at "cw"
  rw [fraction_ok _ _ (Int.mul_ne_zero (Int.ne_of_gt (den_pos p)) (fun e => h0 (Rat.num_eq_zero.mp e))), ← div_div]
  rfl
theorem over_no (n : Nat) {p : Rat} {a : Nat} (hp : Qz a p) (h : a + 1 ≤ 134217728) : evc T (n + 3) 20 [fr p, fr 0] = .exc "NoFraction" := by
  rw [evc_b b1 rfl rfl]
  unfold d_over fr
  walk_at "cw"
  rw [mul_sz hp.num (show Sz 1 ((0 : Rat).den : Int) from by unfold Sz; decide) h, mul_sz hp.den (show Sz 1 ((0 : Rat).num : Int) from by unfold Sz; decide) h]
  walk_at "cw"
  rw [Rat.zero_num, Int.mul_zero, fraction_no]
  rfl
theorem ord_int (p q : Rat) : (if p.num * q.den > q.num * p.den then (1 : Int) else 0) - (if p.num * q.den < q.num * p.den then (1 : Int) else 0) = ordR p q := by
  unfold ordR
  have h1 := Rat.lt_iff p q
  have h2 := Rat.lt_iff q p
  by_cases x : p < q
  · rw [if_pos x, if_neg (by have := h1.mp x; omega), if_pos (h1.mp x)]; rfl
  · rw [if_neg x]
    have x1 : ¬ p.num * q.den < q.num * p.den := fun z => x (h1.mpr z)
    by_cases y : q < p
    · rw [if_pos y, if_pos (h2.mp y), if_neg x1]; rfl
    · have y1 : ¬ q.num * p.den < p.num * q.den := fun z => y (h2.mpr z)
      rw [if_neg y, if_neg x1, if_neg y1]; rfl
theorem order_ok (n : Nat) {p q : Rat} {a b : Nat} (hp : Qz a p) (hq : Qz b q) (h : a + b ≤ 134217728) : evc T (n + 1) 22 [fr p, fr q] = .ok (.int (ordR p q)) := by
  rw [evc_b b1 rfl rfl, ← ord_int]
  unfold d_order_of fr
  walk_at "cw"
  rw [mul_sz hp.num hq.den h]
  walk_at "cw"
  rw [mul_sz hq.num hp.den (by omega)]
  walk_at "cw"
  simp only [decide_eq_true_eq]
end
end Cw

set_option Elab.async false
set_option linter.all false
set_option maxRecDepth 100000
set_option maxHeartbeats 4000000
/-! a reckoning by fuel: what it tells, if it isn't bad, the tongue tells -/
namespace Cw
open PySem PySem.Spec PyProof.Rows L2
def whlF (fu : Nat) (c : List Sl → R Bool) (b : List Sl → Out) (env : List Sl) : Out := (whlN c b fu env).getD .bad
section
variable (F : Nat → List D → R D) (fu : Nat)
mutual
def evSF (env : List Sl) : S → Out
  | .asg i ms e => onR env (ev F (see env ms) e) fun d => .next ((if flatD d = true then env else see env ms).set i (.fr d))
  | .asgL i ms e => onR env (ev F (see env ms) e) fun d => match d with
    | .list ds => .next ((see env ms).set i (.ow ds))
    | _ => .bad
  | .asgT l ms e => onR env (ev F (see env ms) e) fun d => match setT (see env ms) (.many l) d with
    | .ok e2 => .next e2
    | _ => .bad
  | .par i j ms a b => onR env (ev F (see env ms) a) fun x => onR env (ev F (see env ms) b) fun y => .next (((see env ms).set i (.fr x)).set j (.fr y))
  | .parL i j ms a b => onR env (ev F (see env ms) a) fun x => onR env (ev F (see env ms) b) fun y => match x with
    | .list ds => .next (((see env ms).set i (.ow ds)).set j (.fr y))
    | _ => .bad
  | .ret ms e => onR env (ev F (see env ms) e) fun d => .ret d
  | .iff ms c a b => onR env (toB (ev F (see env ms) c)) fun x => if x = true then evSsF env a else evSsF env b
  | .whl ms c b => whlF fu (fun e => toB (ev F (see e ms) c)) (fun e => evSsF e b) env
  | .for_ ms tg it b => onR env (evI F (see env ms) it) fun ds => forGo (fun d e => match setT e tg d with
    | .ok e2 => evSsF e2 b
    | _ => .bad) ds (see env ms)
  | .app i ms e => match env[i]? with
    | some (.ow ds) => onR env (ev F (see env ms) e) fun d => if ds.length < sizeLine then .next ((see env ms).set i (.ow (ds ++ [d]))) else .bad
    | _ => .bad
  | .ext i ms e => match env[i]? with
    | some (.ow ds) => onR env (ev F (see env ms) e) fun d => match d with
      | .list l => if ds.length + l.length ≤ sizeLine then .next ((see env ms).set i (.ow (ds ++ l))) else .bad
      | _ => .bad
    | _ => .bad
  | .popT l i => match env[i]? with
    | some (.ow ds) => (match ds.getLast? with
      | some d => (match setT (env.set i (.ow ds.dropLast)) (.many l) d with
        | .ok e2 => .next e2
        | _ => .bad)
      | none => .bad)
    | _ => .bad
  | .setC i a b => match env[i]? with
    | some (.ow ds) => (match ds[b]? with
      | some d => if a < ds.length then .next (env.set i (.ow (ds.set a d))) else .bad
      | none => .bad)
    | _ => .bad
  | .setX i ms a e => match env[i]? with
    | some (.ow ds) => onR env (ev F (see env ms) e) fun d => onR env (ev F (see env ms) a) (setXO env i ds d)
    | _ => .bad
  | .asgU l ms e => onR env (ev F (see env ms) e) fun d => match d with
    | .list ds => (match setMany (see env ms) l ds with
      | .ok e2 => .next e2
      | _ => .bad)
    | _ => .bad
  | .rais c => .exc c env
  | .tryN b c i d => match evSsF env b with
    | .exc c2 e => if isRef c2 = true then .bad else if isSub c2 c = true then .next (e.set i (.fr d)) else .exc c2 e
    | o => o
  | .tryW b i k => match evSsF env b with
    | .exc c e => if isRef c = true then .bad else .ret (.str (wordT k c))
    | o => o
  | .tryA b i k j => match evSsF env b with
    | .exc c e => if isRef c = true then .bad else (match e[j]? with
      | some (.ow ds) => if ds.length < sizeLine then .next ((e.set i .no).set j (.ow (ds ++ [.str (wordT k c)]))) else .bad
      | _ => .bad)
    | o => o
  | .expr ms e => onR env (ev F (see env ms) e) fun _ => .next env
  | .self k => match (env[0]? : Option Sl) with
    | some (.fr (.tuple fs)) => .next (env.set 0 (.ob true k fs))
    | _ => .bad
  | .selfI k => match (env[0]? : Option Sl) with
    | some (.fr (.tuple fs)) => .next (env.set 0 (.ob true k fs))
    | _ => .bad
  | .asgM i m => onM (evM F env m) fun d e => .next (e.set i (.fr d))
  | .retM m => onM (evM F env m) retO
  | .retP m => onM (evM F env m) fun d _ => .ret d
  | .iffM m a b => onM (evM F env m) fun d e => match d with
    | .bool true => evSsF e a
    | .bool false => evSsF e b
    | _ => .bad
  | .whlM m b => whlF fu (fun _ => .ok true) (fun e => onM (evM F e m) fun d e2 => match d with
    | .bool true => evSsF e2 b
    | .bool false => .brk e2
    | _ => .bad) env
  | .exprM m => onM (evM F env m) fun _ e => .next e
  | .fld i k j m => onM (evM F env m) (fldO i k j)
  | .new i k f ms => onM ((evMs F env ms).bind fun ds e => makeM F e f ds) fun fs e => .next (e.set i (.ob false k fs))
  | .selfL i => match env[i]? with
    | some (.fr (.list ds)) => .next (env.set i (.ln ds))
    | _ => .bad
  | .appL i e => match env[i]? with
    | some (.ln ds) => onR env (ev F env e) fun d => if ds.length < sizeLine then .next (env.set i (.ln (ds ++ [d]))) else .bad
    | _ => .bad
  | .retL i e => match env[i]? with
    | some (.ln ds) => onR env (ev F (env.set i (.fr (.list ds))) e) fun d => if flatD d = true then .ret (.tuple [d, .list ds]) else .bad
    | _ => .bad
  | .retLM i m => onM (evM F env m) (retLO i)
  | .tryT b i k o w => match evSsF env b with
    | .exc c e => if isRef c = true then .bad else .ret (.str (if truW (wtab k) c = true then w else o))
    | o2 => o2
  | .tryR b c d => match evSsF env b with
    | .exc c2 e => if isRef c2 = true then .bad else if isSub c2 c = true then .ret d else .exc c2 e
    | o => o
  | .dct3 i ks es ks2 es2 a => if i < env.length then onR env (evs F env es) fun ds => onR (env.set i .no) (evs F (env.set i .no) es2) fun ds2 => onR (env.set i .no) (ev F (env.set i .no) a) fun x => match lkR (ks ++ ks2) (ds ++ ds2) x with
    | .ok d => .ret d
    | _ => .bad
    else .bad
  | .fldE i k j => fldEO i k j env
  | .fldD i k j a m => onM (evM F env m) fun d e => onR e ((attK e i k j).bind fun x => (ev F e a).bind fun z => .ok (.tuple [x, z])) fun xz => fldDO i k j d xz e
  | .asgMT l m => onM (evM F env m) fun d e => match setT e (.many l) d with
    | .ok e2 => .next e2
    | _ => .bad
  | .raisW i => match env[i]? with
    | some (.fr (.str w)) => .exc (refC w) env
    | _ => .bad
  | .tryD b pre hs i => match evSsF env b with
    | .exc c e => if isRef c = true then (if pre.length + (refW c).length ≤ sizeLine then retO (.str (pre ++ refW c)) e else .bad) else (match hs.find? (fun h => isSub c h.1) with
      | some h => retO (.str h.2) e
      | none => .exc c e)
    | .next e => (match e[i]? with
      | some (.fr d) => retO d e
      | _ => .bad)
    | _ => .bad
  | .keep _ k b => match (env[0]? : Option Sl) with
    | some (.fr (.tuple fs)) => keepO k (evSsF (env.set 0 (.ob true k fs)) b)
    | _ => .bad
  | .brk => .brk env
  | .cont => .cont env
  | .pass => .next env
def evSsF (env : List Sl) : Ss → Out
  | .nil => .next env
  | .cons s ss => match evSF env s with
    | .next e => evSsF e ss
    | o => o
end
end
def runDF (F : Nat → List D → R D) (fu : Nat) (d : Def) (ds : List D) : R D :=
  if ds.length = d.ps then
    (match evSsF F fu (startE d.sl ds) d.body with
    | .next _ => .ok .none
    | .ret x => .ok x
    | .exc c _ => .exc c
    | _ => .bad)
  else .bad
def evcF (T : Nat → Option Def) (fu : Nat) : Nat → Nat → List D → R D
  | 0, _, _ => .bad
  | n + 1, f, ds => match T f with
    | some d => if d.ini = true then (match n with
      | 0 => .bad
      | m + 1 => runDF (evcF T fu m) fu d ds) else runDF (evcF T fu n) fu d ds
    | none => .bad
end Cw

set_option Elab.async false
set_option linter.all false
set_option maxRecDepth 100000
set_option maxHeartbeats 4000000
namespace Cw
open PySem PySem.Spec PyProof.Rows L2
/-- bad, or the same -/
def RLe {A : Type} (r r' : R A) : Prop := r = .bad ∨ r = r'
def MLe {A : Type} (r r' : RM A) : Prop := r = .bad ∨ r = r'
def OLe (r r' : Out) : Prop := r = .bad ∨ r = r'
theorem RLe.refl {A : Type} (r : R A) : RLe r r := .inr rfl
theorem MLe.refl {A : Type} (r : RM A) : MLe r r := .inr rfl
theorem OLe.refl (r : Out) : OLe r r := .inr rfl
theorem RLe.bad {A : Type} {r : R A} : RLe .bad r := .inl rfl
theorem MLe.bad {A : Type} {r : RM A} : MLe .bad r := .inl rfl
theorem OLe.bad {r : Out} : OLe .bad r := .inl rfl
theorem RLe.bind {A B : Type} {r r' : R A} {f f' : A → R B} (h : RLe r r') (k : ∀ a, RLe (f a) (f' a)) : RLe (r.bind f) (r'.bind f') := by
  rcases h with h | h
  · subst h; exact .inl rfl
  · subst h
    cases r with
    | ok a => exact k a
    | exc c => exact .inr rfl
    | bad => exact .inr rfl
theorem MLe.bind {A B : Type} {r r' : RM A} {f f' : A → List Sl → RM B} (h : MLe r r') (k : ∀ a e, MLe (f a e) (f' a e)) : MLe (r.bind f) (r'.bind f') := by
  rcases h with h | h
  · subst h; exact .inl rfl
  · subst h
    cases r with
    | ok a e => exact k a e
    | exc c e => exact .inr rfl
    | bad => exact .inr rfl
theorem RLe.lift {A : Type} {env : List Sl} {r r' : R A} (h : RLe r r') : MLe (liftM env r) (liftM env r') := by
  rcases h with h | h
  · subst h; exact .inl rfl
  · subst h; exact .refl _
theorem OLe.onR {A : Type} {env : List Sl} {r r' : R A} {f f' : A → Out} (h : RLe r r') (k : ∀ a, OLe (f a) (f' a)) : OLe (onR env r f) (onR env r' f') := by
  rcases h with h | h
  · subst h; exact .inl rfl
  · subst h
    cases r with
    | ok a => exact k a
    | exc c => exact .inr rfl
    | bad => exact .inr rfl
theorem OLe.onM {A : Type} {r r' : RM A} {f f' : A → List Sl → Out} (h : MLe r r') (k : ∀ a e, OLe (f a e) (f' a e)) : OLe (onM r f) (onM r' f') := by
  rcases h with h | h
  · subst h; exact .inl rfl
  · subst h
    cases r with
    | ok a e => exact k a e
    | exc c e => exact .inr rfl
    | bad => exact .inr rfl
theorem OLe.map {o o' : Out} {f : Out → Out} (h : OLe o o') (hb : f .bad = .bad) : OLe (f o) (f o') := by
  rcases h with h | h
  · subst h; exact .inl hb
  · subst h; exact .inr rfl
theorem RLe.map {A B : Type} {o o' : R A} {f : R A → R B} (h : RLe o o') (hb : f .bad = .bad) : RLe (f o) (f o') := by
  rcases h with h | h
  · subst h; exact .inl hb
  · subst h; exact .inr rfl
theorem lcGoLe {f f' : D → R (Option D)} (k : ∀ d, RLe (f d) (f' d)) : ∀ ds, RLe (lcGo f ds) (lcGo f' ds)
  | [] => .refl _
  | d :: ds => by
    unfold lcGo
    rcases k d with h | h
    · rw [h]; exact .inl rfl
    · rw [h]
      rcases lcGoLe k ds with g | g
      · rw [g]
        cases f' d <;> first | exact .inl rfl | exact .inr rfl
      · rw [g]; exact .refl _
theorem lcGoXLe {f f' : D → R D} (k : ∀ d, RLe (f d) (f' d)) : ∀ ds, RLe (lcGoX f ds) (lcGoX f' ds)
  | [] => .refl _
  | d :: ds => (k d).bind fun _ => (lcGoXLe k ds).bind fun _ => .refl _
theorem lcGoMLe {i : Nat} {f f' : List Sl → RM D} (k : ∀ e, MLe (f e) (f' e)) : ∀ ds e, MLe (lcGoM i f ds e) (lcGoM i f' ds e)
  | [], e => .refl _
  | d :: ds, e => by
    unfold lcGoM
    rcases k ((e.set i .no).set i (.fr d)) with h | h
    · rw [h]; exact .inl rfl
    · rw [h]
      cases f' ((e.set i .no).set i (.fr d)) with
      | ok x e2 => exact (lcGoMLe k ds e2).bind fun _ _ => .refl _
      | exc c e2 => exact .refl _
      | bad => exact .refl _
theorem forGoLe {f f' : D → List Sl → Out} (k : ∀ d e, OLe (f d e) (f' d e)) : ∀ ds e, OLe (forGo f ds e) (forGo f' ds e)
  | [], e => .refl _
  | d :: ds, e => by
    unfold forGo
    rcases k d e with h | h
    · rw [h]; exact .inl rfl
    · rw [h]
      cases f' d e with
      | next e2 => exact forGoLe k ds e2
      | cont e2 => exact forGoLe k ds e2
      | _ => exact .refl _
theorem whlNLe {c c' : List Sl → R Bool} {b b' : List Sl → Out} (kc : ∀ e, RLe (c e) (c' e)) (kb : ∀ e, OLe (b e) (b' e)) : ∀ n e o, whlN c b n e = some o → o = .bad ∨ whlN c' b' n e = some o
  | 0, e, o, h => by cases h
  | n + 1, e, o, h => by
    unfold whlN at h ⊢
    rcases kc e with g | g
    · rw [g] at h; cases h; exact .inl rfl
    · rw [g] at h
      cases q : c' e with
      | exc x => rw [q] at h; exact .inr h
      | bad => rw [q] at h; exact .inr h
      | ok t =>
        rw [q] at h
        cases t with
        | false => exact .inr h
        | true =>
          dsimp only at h ⊢
          rcases kb e with g2 | g2
          · rw [g2] at h; cases h; exact .inl rfl
          · rw [g2] at h
            cases q2 : b' e with
            | next e2 => rw [q2] at h; exact whlNLe kc kb n e2 o h
            | cont e2 => rw [q2] at h; exact whlNLe kc kb n e2 o h
            | _ => rw [q2] at h; exact .inr h
theorem whlFLe {fu : Nat} {c c' : List Sl → R Bool} {b b' : List Sl → Out} (kc : ∀ e, RLe (c e) (c' e)) (kb : ∀ e, OLe (b e) (b' e)) (e : List Sl) : OLe (whlF fu c b e) (whl c' b' e) := by
  unfold whlF
  cases h : whlN c b fu e with
  | none => exact .inl rfl
  | some o =>
    rcases whlNLe kc kb fu e o h with g | g
    · exact .inl g
    · exact .inr (whl_of g).symm
theorem toBLe {r r' : R D} (h : RLe r r') : RLe (toB r) (toB r') := h.map rfl
section
variable {F F' : Nat → List D → R D} (hF : ∀ f ds, RLe (F f ds) (F' f ds))
include hF
mutual
theorem evLe : ∀ (e : E) (env : List Sl), RLe (ev F env e) (ev F' env e)
  | .k d, env => by simp only [ev]; exact .refl _
  | .v i, env => by simp only [ev]; exact .refl _
  | .g j, env => by simp only [ev]; exact .refl _
  | .tup es, env => by simp only [ev]; exact (evsLe es env).bind fun _ => .refl _
  | .lst es, env => by simp only [ev]; exact (evsLe es env).bind fun _ => .refl _
  | .bin o a b, env => by simp only [ev]; exact (evLe a env).bind fun _ => (evLe b env).bind fun _ => .refl _
  | .neg a, env => by simp only [ev]; exact (evLe a env).bind fun _ => .refl _
  | .not a, env => by simp only [ev]; exact (evLe a env).bind fun _ => .refl _
  | .and es, env => by simp only [ev]; exact evAndLe es env
  | .or es, env => by simp only [ev]; exact evOrLe es env
  | .cmp o a b, env => by simp only [ev]; exact (evLe a env).bind fun _ => (evLe b env).bind fun _ => .refl _
  | .cmp2 o p a b c, env => by
    simp only [ev]
    refine (evLe a env).bind fun x => (evLe b env).bind fun y => RLe.bind (.refl _) fun z => ?_
    cases z with
    | bool t =>
      cases t with
      | true => exact (evLe c env).bind fun _ => .refl _
      | false => exact .refl _
    | _ => exact .refl _
  | .ife c a b, env => by
    simp only [ev]
    refine (evLe c env).bind fun z => ?_
    cases z with
    | bool t =>
      cases t with
      | true => exact evLe a env
      | false => exact evLe b env
    | _ => exact .refl _
  | .ix a i, env => by simp only [ev]; exact (evLe a env).bind fun _ => (evLe i env).bind fun _ => .refl _
  | .sl a lo hi, env => by simp only [ev]; exact (evLe a env).bind fun _ => (evOLe lo env).bind fun _ => (evOLe hi env).bind fun _ => .refl _
  | .call f es, env => by simp only [ev]; exact (evsLe es env).bind fun _ => hF _ _
  | .bf f es, env => by simp only [ev]; exact (evsLe es env).bind fun _ => .refl _
  | .isi a t, env => by simp only [ev]; exact (evLe a env).bind fun _ => .refl _
  | .rev a, env => by simp only [ev]; exact (evLe a env).bind fun _ => .refl _
  | .mx0 a, env => by simp only [ev]; exact (evLe a env).bind fun _ => .refl _
  | .ins a j, env => by simp only [ev]; exact (evLe a env).bind fun _ => .refl _
  | .lens a, env => by simp only [ev]; exact (evLe a env).bind fun _ => .refl _
  | .orv a b, env => by
    simp only [ev]
    refine (evLe a env).bind fun x => ?_
    cases truD x with
    | none => exact .refl _
    | some t =>
      cases t with
      | true => exact .refl _
      | false => exact evLe b env
  | .att i k j, env => by simp only [ev]; exact .refl _
  | .tx1 o a, env => by simp only [ev]; exact (evLe a env).bind fun _ => .refl _
  | .tx2 o a b, env => by simp only [ev]; exact (evLe a env).bind fun _ => RLe.bind (.refl _) fun _ => (evLe b env).bind fun _ => .refl _
  | .ind a j, env => by simp only [ev]; exact (evLe a env).bind fun _ => .refl _
  | .dg j a, env => by simp only [ev]; exact (evLe a env).bind fun _ => .refl _
  | .din i k j a, env => by simp only [ev]; exact (evLe a env).bind fun _ => .refl _
  | .dat i k j a, env => by simp only [ev]; exact RLe.bind (.refl _) fun _ => (evLe a env).bind fun _ => .refl _
  | .dlit ks es a, env => by simp only [ev]; exact (evsLe es env).bind fun _ => (evLe a env).bind fun _ => .refl _
  | .cln f a, env => by
    simp only [ev]
    exact (evLe a env).bind fun d => RLe.bind ((hF f [d, .list []]).map rfl) fun _ => .refl _
  | .cnt i b, env => by simp only [ev]; exact RLe.bind (.refl _) fun _ => RLe.bind (.refl _) fun _ => (evLe b env).bind fun _ => .refl _
  | .lcx own elt tg it, env => by
    simp only [ev]
    exact (evILe it env).bind fun ds => (lcGoXLe (fun d => RLe.bind (.refl _) fun e2 => evLe elt e2) ds).bind fun _ => .refl _
  | .lc own elt tg it c, env => by
    simp only [ev]
    refine (evILe it env).bind fun ds => (lcGoLe (fun d => RLe.bind (.refl _) fun e2 => (evCLe c e2).bind fun b => ?_) ds).bind fun _ => .refl _
    split
    · exact (evLe elt e2).bind fun _ => .refl _
    · exact .refl _
theorem evsLe : ∀ (es : Es) (env : List Sl), RLe (evs F env es) (evs F' env es)
  | .nil, env => by simp only [evs]; exact .refl _
  | .cons e es, env => by simp only [evs]; exact (evLe e env).bind fun _ => (evsLe es env).bind fun _ => .refl _
theorem evAndLe : ∀ (es : Es) (env : List Sl), RLe (evAnd F env es) (evAnd F' env es)
  | .nil, env => by simp only [evAnd]; exact .refl _
  | .cons e .nil, env => by simp only [evAnd]; exact evLe e env
  | .cons e (.cons e2 es), env => by
    simp only [evAnd]
    refine (evLe e env).bind fun z => ?_
    cases z with
    | bool t =>
      cases t with
      | true => exact evAndLe (.cons e2 es) env
      | false => exact .refl _
    | _ => exact .refl _
theorem evOrLe : ∀ (es : Es) (env : List Sl), RLe (evOr F env es) (evOr F' env es)
  | .nil, env => by simp only [evOr]; exact .refl _
  | .cons e .nil, env => by simp only [evOr]; exact evLe e env
  | .cons e (.cons e2 es), env => by
    simp only [evOr]
    refine (evLe e env).bind fun z => ?_
    cases z with
    | bool t =>
      cases t with
      | true => exact .refl _
      | false => exact evOrLe (.cons e2 es) env
    | _ => exact .refl _
theorem evOLe : ∀ (e : Eo) (env : List Sl), RLe (evO F env e) (evO F' env e)
  | .no, env => by simp only [evO]; exact .refl _
  | .yes e, env => by simp only [evO]; exact (evLe e env).bind fun _ => .refl _
theorem evCLe : ∀ (e : Eo) (env : List Sl), RLe (evC F env e) (evC F' env e)
  | .no, env => by simp only [evC]; exact .refl _
  | .yes e, env => by simp only [evC]; exact (evLe e env).bind fun _ => .refl _
theorem evILe : ∀ (it : It) (env : List Sl), RLe (evI F env it) (evI F' env it)
  | .seq e, env => by simp only [evI]; exact (evLe e env).bind fun _ => .refl _
  | .rng1 e, env => by simp only [evI]; exact (evLe e env).bind fun _ => .refl _
  | .rng2 a b, env => by simp only [evI]; exact (evLe a env).bind fun _ => (evLe b env).bind fun _ => .refl _
  | .rng3 a b c, env => by simp only [evI]; exact (evLe a env).bind fun _ => (evLe b env).bind fun _ => (evLe c env).bind fun _ => .refl _
  | .enum e, env => by simp only [evI]; exact (evLe e env).bind fun _ => .refl _
  | .zip a b, env => by simp only [evI]; exact (evLe a env).bind fun _ => (evLe b env).bind fun _ => .refl _
end
theorem callMLe (env : List Sl) (i k f : Nat) (ds : List D) : MLe (callM F env i k f ds) (callM F' env i k f ds) := by
  unfold callM
  split
  · split
    · rcases hF f (.tuple _ :: ds) with h | h
      · rw [h]; exact .inl rfl
      · rw [h]; exact .refl _
    · exact .refl _
  · exact .refl _
theorem callXLe (env : List Sl) (i k f : Nat) (ds : List D) : MLe (callX F env i k f ds) (callX F' env i k f ds) := by
  unfold callX
  split
  · split
    · rcases hF f (.tuple _ :: ds) with h | h
      · rw [h]; exact .inl rfl
      · rw [h]; exact .refl _
    · exact .refl _
  · exact .refl _
theorem makeMLe (env : List Sl) (f : Nat) (ds : List D) : MLe (makeM F env f ds) (makeM F' env f ds) := by
  unfold makeM
  rcases hF f (.tuple [] :: ds) with h | h
  · rw [h]; exact .inl rfl
  · rw [h]; exact .refl _
theorem onceMLe (env : List Sl) (f : Nat) (fs ds : List D) : MLe (onceM F env f fs ds) (onceM F' env f fs ds) := by
  unfold onceM
  rcases hF f (.tuple fs :: ds) with h | h
  · rw [h]; exact .inl rfl
  · rw [h]; exact .refl _
theorem callLLe (env : List Sl) (i f : Nat) (d : D) : MLe (callL F env i f d) (callL F' env i f d) := by
  unfold callL
  split
  · rcases hF f [d, .list _] with h | h
    · rw [h]; exact .inl rfl
    · rw [h]; exact .refl _
  · exact .refl _
mutual
theorem evMLe : ∀ (m : M) (env : List Sl), MLe (evM F env m) (evM F' env m)
  | .e e, env => by simp only [evM]; exact (evLe hF e env).lift
  | .mc i k f ms, env => by
    simp only [evM]
    split
    · exact (evMsLe ms env).bind fun ds e => callMLe hF e i k f ds
    · exact .refl _
  | .mx i k f ms, env => by
    simp only [evM]
    split
    · exact (evMsLe ms env).bind fun ds e => callXLe hF e i k f ds
    · exact .refl _
  | .mk k f as h bs, env => by
    simp only [evM]
    exact (evsLe hF as env).lift.bind fun ds e => (makeMLe hF e f ds).bind fun fs e => (evsLe hF bs e).lift.bind fun es e => onceMLe hF e h fs es
  | .tup ms, env => by simp only [evM]; exact (evMsLe ms env).bind fun _ _ => .refl _
  | .not m, env => by simp only [evM]; exact (evMLe m env).bind fun _ _ => .refl _
  | .and a b, env => by
    simp only [evM]
    refine (evMLe a env).bind fun z e => ?_
    cases z with
    | bool t =>
      cases t with
      | true => exact evMLe b e
      | false => exact .refl _
    | _ => exact .refl _
  | .or a b, env => by
    simp only [evM]
    refine (evMLe a env).bind fun z e => ?_
    cases z with
    | bool t =>
      cases t with
      | true => exact .refl _
      | false => exact evMLe b e
    | _ => exact .refl _
  | .cl i f a, env => by simp only [evM]; exact (evLe hF a env).lift.bind fun d e => callLLe hF e i f d
  | .cmp o m e, env => by simp only [evM]; exact (evMLe m env).bind fun d e2 => (evLe hF e e2).lift.bind fun _ _ => .refl _
  | .ind m j, env => by simp only [evM]; exact (evMLe m env).bind fun _ _ => .refl _
  | .call f ms, env => by simp only [evM]; exact (evMsLe ms env).bind fun ds e => (hF f ds).lift
  | .bf f ms, env => by simp only [evM]; exact (evMsLe ms env).bind fun _ _ => .refl _
  | .lcm i m it, env => by simp only [evM]; exact (evILe hF it env).lift.bind fun ds e => (lcGoMLe (fun e => evMLe m e) ds e).bind fun _ _ => .refl _
theorem evMsLe : ∀ (ms : Ms) (env : List Sl), MLe (evMs F env ms) (evMs F' env ms)
  | .nil, env => by simp only [evMs]; exact .refl _
  | .cons m ms, env => by simp only [evMs]; exact (evMLe m env).bind fun d e => (evMsLe ms e).bind fun _ _ => .refl _
end
end
end Cw

set_option Elab.async false
set_option linter.all false
set_option maxRecDepth 100000
set_option maxHeartbeats 4000000
namespace Cw
open PySem PySem.Spec PyProof.Rows L2
section
variable {F F' : Nat → List D → R D} (hF : ∀ f ds, RLe (F f ds) (F' f ds)) {fu : Nat}
include hF
mutual
theorem evSLe : ∀ (s : S) (env : List Sl), OLe (evSF F fu env s) (evS F' env s)
  | .asg i ms e, env => by simp only [evSF, evS]; exact .onR (evLe hF e _) fun _ => .refl _
  | .asgL i ms e, env => by simp only [evSF, evS]; exact .onR (evLe hF e _) fun _ => .refl _
  | .asgT l ms e, env => by simp only [evSF, evS]; exact .onR (evLe hF e _) fun _ => .refl _
  | .par i j ms a b, env => by simp only [evSF, evS]; exact .onR (evLe hF a _) fun _ => .onR (evLe hF b _) fun _ => .refl _
  | .parL i j ms a b, env => by simp only [evSF, evS]; exact .onR (evLe hF a _) fun _ => .onR (evLe hF b _) fun _ => .refl _
  | .ret ms e, env => by simp only [evSF, evS]; exact .onR (evLe hF e _) fun _ => .refl _
  | .iff ms c a b, env => by
    simp only [evSF, evS]
    refine .onR (toBLe (evLe hF c _)) fun x => ?_
    split
    · exact evSsLe a env
    · exact evSsLe b env
  | .whl ms c b, env => by
    simp only [evSF, evS]
    exact whlFLe (fun e => toBLe (evLe hF c _)) (fun e => evSsLe b e) env
  | .for_ ms tg it b, env => by
    simp only [evSF, evS]
    refine .onR (evILe hF it _) fun ds => forGoLe (fun d e => ?_) ds _
    cases setT e tg d with
    | ok e2 => exact evSsLe b e2
    | _ => exact .refl _
  | .app i ms e, env => by
    simp only [evSF, evS]
    cases env[i]? with
    | none => exact .refl _
    | some z =>
      cases z with
      | ow ds => exact .onR (evLe hF e _) fun _ => .refl _
      | _ => exact .refl _
  | .ext i ms e, env => by
    simp only [evSF, evS]
    cases env[i]? with
    | none => exact .refl _
    | some z =>
      cases z with
      | ow ds => exact .onR (evLe hF e _) fun _ => .refl _
      | _ => exact .refl _
  | .popT l i, env => by simp only [evSF, evS]; exact .refl _
  | .setC i a b, env => by simp only [evSF, evS]; exact .refl _
  | .setX i ms a e, env => by
    simp only [evSF, evS]
    cases env[i]? with
    | none => exact .refl _
    | some z =>
      cases z with
      | ow ds => exact .onR (evLe hF e _) fun _ => .onR (evLe hF a _) fun _ => .refl _
      | _ => exact .refl _
  | .asgU l ms e, env => by simp only [evSF, evS]; exact .onR (evLe hF e _) fun _ => .refl _
  | .rais c, env => by simp only [evSF, evS]; exact .refl _
  | .tryN b c i d, env => by
    simp only [evSF, evS]
    rcases evSsLe b env with h | h
    · rw [h]; exact .inl rfl
    · rw [h]; exact .refl _
  | .tryW b i k, env => by
    simp only [evSF, evS]
    rcases evSsLe b env with h | h
    · rw [h]; exact .inl rfl
    · rw [h]; exact .refl _
  | .tryA b i k j, env => by
    simp only [evSF, evS]
    rcases evSsLe b env with h | h
    · rw [h]; exact .inl rfl
    · rw [h]; exact .refl _
  | .expr ms e, env => by simp only [evSF, evS]; exact .onR (evLe hF e _) fun _ => .refl _
  | .self k, env => by simp only [evSF, evS]; exact .refl _
  | .selfI k, env => by simp only [evSF, evS]; exact .refl _
  | .asgM i m, env => by simp only [evSF, evS]; exact .onM (evMLe hF m _) fun _ _ => .refl _
  | .retM m, env => by simp only [evSF, evS]; exact .onM (evMLe hF m _) fun _ _ => .refl _
  | .retP m, env => by simp only [evSF, evS]; exact .onM (evMLe hF m _) fun _ _ => .refl _
  | .iffM m a b, env => by
    simp only [evSF, evS]
    refine .onM (evMLe hF m _) fun d e => ?_
    cases d with
    | bool t =>
      cases t with
      | true => exact evSsLe a e
      | false => exact evSsLe b e
    | _ => exact .refl _
  | .whlM m b, env => by
    simp only [evSF, evS]
    refine whlFLe (fun e => .refl _) (fun e => .onM (evMLe hF m _) fun d e => ?_) env
    cases d with
    | bool t =>
      cases t with
      | true => exact evSsLe b e
      | false => exact .refl _
    | _ => exact .refl _
  | .exprM m, env => by simp only [evSF, evS]; exact .onM (evMLe hF m _) fun _ _ => .refl _
  | .fld i k j m, env => by simp only [evSF, evS]; exact .onM (evMLe hF m _) fun _ _ => .refl _
  | .new i k f ms, env => by simp only [evSF, evS]; exact .onM ((evMsLe hF ms _).bind fun ds e => makeMLe hF e f ds) fun _ _ => .refl _
  | .selfL i, env => by simp only [evSF, evS]; exact .refl _
  | .appL i e, env => by
    simp only [evSF, evS]
    cases env[i]? with
    | none => exact .refl _
    | some z =>
      cases z with
      | ln ds => exact .onR (evLe hF e _) fun _ => .refl _
      | _ => exact .refl _
  | .retL i e, env => by
    simp only [evSF, evS]
    cases env[i]? with
    | none => exact .refl _
    | some z =>
      cases z with
      | ln ds => exact .onR (evLe hF e _) fun _ => .refl _
      | _ => exact .refl _
  | .retLM i m, env => by simp only [evSF, evS]; exact .onM (evMLe hF m _) fun _ _ => .refl _
  | .tryT b i k o w, env => by
    simp only [evSF, evS]
    rcases evSsLe b env with h | h
    · rw [h]; exact .inl rfl
    · rw [h]; exact .refl _
  | .tryR b c d, env => by
    simp only [evSF, evS]
    rcases evSsLe b env with h | h
    · rw [h]; exact .inl rfl
    · rw [h]; exact .refl _
  | .dct3 i ks es ks2 es2 a, env => by
    simp only [evSF, evS]
    split
    · exact .onR (evsLe hF es _) fun _ => .onR (evsLe hF es2 _) fun _ => .onR (evLe hF a _) fun _ => .refl _
    · exact .refl _
  | .fldE i k j, env => by simp only [evSF, evS]; exact .refl _
  | .fldD i k j a m, env => by
    simp only [evSF, evS]
    exact .onM (evMLe hF m _) fun d e => .onR (RLe.bind (.refl _) fun x => (evLe hF a e).bind fun _ => .refl _) fun _ => .refl _
  | .asgMT l m, env => by simp only [evSF, evS]; exact .onM (evMLe hF m _) fun _ _ => .refl _
  | .raisW i, env => by simp only [evSF, evS]; exact .refl _
  | .tryD b pre hs i, env => by
    simp only [evSF, evS]
    rcases evSsLe b env with h | h
    · rw [h]; exact .inl rfl
    · rw [h]; exact .refl _
  | .keep ini k b, env => by
    simp only [evSF, evS]
    cases (env[0]? : Option Sl) with
    | none => exact .refl _
    | some z =>
      cases z with
      | fr d =>
        cases d with
        | tuple fs => exact OLe.map (f := keepO k) (evSsLe b _) rfl
        | _ => exact .refl _
      | _ => exact .refl _
  | .brk, env => by simp only [evSF, evS]; exact .refl _
  | .cont, env => by simp only [evSF, evS]; exact .refl _
  | .pass, env => by simp only [evSF, evS]; exact .refl _
theorem evSsLe : ∀ (ss : Ss) (env : List Sl), OLe (evSsF F fu env ss) (evSs F' env ss)
  | .nil, env => by simp only [evSsF, evSs]; exact .refl _
  | .cons s ss, env => by
    simp only [evSsF, evSs]
    rcases evSLe s env with h | h
    · rw [h]; exact .inl rfl
    · rw [h]
      cases evS F' env s with
      | next e => exact evSsLe ss e
      | _ => exact .refl _
end
theorem runDLe (d : Def) (ds : List D) : RLe (runDF F fu d ds) (runD F' d ds) := by
  unfold runDF runD
  split
  · rcases evSsLe hF (fu := fu) d.body (startE d.sl ds) with h | h
    · rw [h]; exact .inl rfl
    · rw [h]; exact .refl _
  · exact .refl _
end
theorem evcLe2 {T : Nat → Option Def} {fu : Nat} : ∀ n, (∀ f ds, RLe (evcF T fu n f ds) (evc T n f ds)) ∧ ∀ m, n = m + 1 → ∀ f ds, RLe (evcF T fu m f ds) (evc T m f ds)
  | 0 => ⟨fun f ds => .inl rfl, fun m h => by omega⟩
  | n + 1 => by
    obtain ⟨A, B⟩ := evcLe2 (T := T) (fu := fu) n
    refine ⟨fun f ds => ?_, fun m h => by
      have e : n = m := by omega
      subst e; exact A⟩
    unfold evcF evc
    cases T f with
    | none => exact .refl _
    | some d =>
      dsimp only
      split
      · cases n with
        | zero => exact .refl _
        | succ m => exact runDLe (B m rfl) d ds
      · exact runDLe A d ds
/-- what is reckoned by fuel, and isn't bad, the tongue tells -/
theorem evc_by {T : Nat → Option Def} {fu n f : Nat} {ds : List D} {d : D} (h : evcF T fu n f ds = .ok d) : evc T n f ds = .ok d := by
  rcases (evcLe2 (T := T) (fu := fu) n).1 f ds with g | g
  · rw [g] at h; cases h
  · rw [← g]; exact h
end Cw

set_option Elab.async false
set_option linter.all false
set_option maxRecDepth 100000
set_option maxHeartbeats 4000000
namespace Cw
open PySem

local macro_rules | `(tactic| walk_at "cw") => `(tactic| simp -implicitDefEqProofs only [ss_nil, ss_cons, goSs_next, goSs_ret, goSs_exc, goSs_brk, goSs_cont, s_asg', s_asgL2, asgL_ok, see_cons, see1_ow, see1_fr, see1_no, see1_S, ow_0, ow_S, s_app', app_some, app_exc, s_asgT', s_par', s_ret', s_iff', s_whl', s_for', s_rais', s_expr', s_brk', s_cont', s_pass', s_try', s_tryW', tryW_ret, tryW_next, tryW_exc, tryN_ret, tryN_next, tryN_exc,
  e_k, e_v, e_g, e_tup', e_lst', e_bin', e_neg', e_not', e_and', e_or', e_cmp', e_cmp2', e_ife', e_ix', e_sl', e_call', e_bf', e_isi', e_lc', es_nil, es_cons, and_one, and_cons, or_one, or_cons, eo_no, eo_yes, ec_no, ec_yes, ei_seq, ei_rng1, ei_rng2, ei_zip, ei_enum,
  gv0, gvS, see0, fl_int, fl_bool, fl_str, fl_none, fl_tup, fl_lst, bind_ok, bind_bad, bind_exc, onR_ok, onR_exc, onR_bad, toB_bool, toB_exc, eq_int, ne_int, lt_int', le_int', gt_int', ge_int', add_int', sub_int', bf_abs, bf_max, bf_min, bf_len, bf_lenT, bf_int, bf_intB,
  startE, List.map_cons, List.map_nil, List.length_cons, List.length_map, List.length_nil, List.cons_append, List.nil_append, List.set_cons_zero, List.set_cons_succ, List.replicate, Nat.sub_self, Nat.reduceSub, Nat.reduceAdd, if_true, if_false, Bool.false_eq_true, reduceIte, ixT0, ixT1, ixT2, outR_ret, outR_next, outR_exc, setT, setMany, wipeE, rng1_ok, rng2_ok, not_ok, neg_ok, and_t, and_f, and_ok, and_x, or_t, or_f, or_ok, or_x, ife_b, Bool.not_true, Bool.not_false, Bool.true_and, Bool.and_true, Bool.false_and, Bool.and_false, Bool.true_or, Bool.or_true, Bool.false_or, Bool.or_false, decide_true, decide_false, beq_self_eq_true, Int.reduceBEq, Int.reduceLT, Int.reduceLE, Int.reduceAdd, Int.reduceSub, Int.reduceNeg, Int.cast_ofNat_Int, fl_fr, eq_fr, ne_fr, ix_fr0, ix_fr1, ite_self, lc_nil, lc_cons, consR_s, consR_n, bf_all, bf_any, bf_sum, bf_tup, ofO_some, bls_nil, bls_cons, ints_nil, ints_cons, Option.map_some, seq_lst, seq_tup, ixL0, ixL1, ixL2, ixL3, isi_bi, isi_bb, isi_ii, isi_ib, isi_tt, List.all_cons, List.all_nil, id, pw_10_11, pw_10_12, pw_10_13, pw_10_30, pw_10_40, pw_10_6, pw_10_9, pw_2_8, pw_2_10, pw_2_12, pw_2_13, pw_2_14, pw_2_15, pw_2_16, pw_2_17, pw_2_18, pw_2_20, pw_2_24, pw_2_25, pw_2_27, pw_2_28, pw_2_30, pw_2_32, pw_2_34, pw_2_36, pw_2_38, pw_2_40, pw_2_41, pw_2_42, pw_2_44, pw_2_50, pw_2_54, pw_2_56, pw_2_60])
local macro_rules | `(tactic| walk_at "cw*") => `(tactic| simp -implicitDefEqProofs only [*, ss_nil, ss_cons, goSs_next, goSs_ret, goSs_exc, goSs_brk, goSs_cont, s_asg', s_asgL2, asgL_ok, see_cons, see1_ow, see1_fr, see1_no, see1_S, ow_0, ow_S, s_app', app_some, app_exc, s_asgT', s_par', s_ret', s_iff', s_whl', s_for', s_rais', s_expr', s_brk', s_cont', s_pass', s_try', s_tryW', tryW_ret, tryW_next, tryW_exc, tryN_ret, tryN_next, tryN_exc,
  e_k, e_v, e_g, e_tup', e_lst', e_bin', e_neg', e_not', e_and', e_or', e_cmp', e_cmp2', e_ife', e_ix', e_sl', e_call', e_bf', e_isi', e_lc', es_nil, es_cons, and_one, and_cons, or_one, or_cons, eo_no, eo_yes, ec_no, ec_yes, ei_seq, ei_rng1, ei_rng2, ei_zip, ei_enum,
  gv0, gvS, see0, fl_int, fl_bool, fl_str, fl_none, fl_tup, fl_lst, bind_ok, bind_bad, bind_exc, onR_ok, onR_exc, onR_bad, toB_bool, toB_exc, eq_int, ne_int, lt_int', le_int', gt_int', ge_int', add_int', sub_int', bf_abs, bf_max, bf_min, bf_len, bf_lenT, bf_int, bf_intB,
  startE, List.map_cons, List.map_nil, List.length_cons, List.length_map, List.length_nil, List.cons_append, List.nil_append, List.set_cons_zero, List.set_cons_succ, List.replicate, Nat.sub_self, Nat.reduceSub, Nat.reduceAdd, if_true, if_false, Bool.false_eq_true, reduceIte, ixT0, ixT1, ixT2, outR_ret, outR_next, outR_exc, setT, setMany, wipeE, rng1_ok, rng2_ok, not_ok, neg_ok, and_t, and_f, and_ok, and_x, or_t, or_f, or_ok, or_x, ife_b, Bool.not_true, Bool.not_false, Bool.true_and, Bool.and_true, Bool.false_and, Bool.and_false, Bool.true_or, Bool.or_true, Bool.false_or, Bool.or_false, decide_true, decide_false, beq_self_eq_true, Int.reduceBEq, Int.reduceLT, Int.reduceLE, Int.reduceAdd, Int.reduceSub, Int.reduceNeg, Int.cast_ofNat_Int, fl_fr, eq_fr, ne_fr, ix_fr0, ix_fr1, ite_self, lc_nil, lc_cons, consR_s, consR_n, bf_all, bf_any, bf_sum, bf_tup, ofO_some, bls_nil, bls_cons, ints_nil, ints_cons, Option.map_some, seq_lst, seq_tup, ixL0, ixL1, ixL2, ixL3, isi_bi, isi_bb, isi_ii, isi_ib, isi_tt, List.all_cons, List.all_nil, id, pw_10_11, pw_10_12, pw_10_13, pw_10_30, pw_10_40, pw_10_6, pw_10_9, pw_2_8, pw_2_10, pw_2_12, pw_2_13, pw_2_14, pw_2_15, pw_2_16, pw_2_17, pw_2_18, pw_2_20, pw_2_24, pw_2_25, pw_2_27, pw_2_28, pw_2_30, pw_2_32, pw_2_34, pw_2_36, pw_2_38, pw_2_40, pw_2_41, pw_2_42, pw_2_44, pw_2_50, pw_2_54, pw_2_56, pw_2_60])

section
variable {T : Nat → Option Def} [Lay b1 T]
theorem power_ok (n : Nat) {q : Rat} {a k : Nat} (hq : Qz a q) (h : a * k + a + 1 ≤ 134217728) (hk : k ≤ 1000000) : evc T (n + 1) 21 [fr q, .int k] = .ok (fr (q ^ k)) := by
  rw [evc_b b1 rfl rfl]
  unfold d_power fr
  walk_at "cw"
  rw [rng_nat hk]
  walk_at "cw"
  obtain ⟨e, z, s, hs⟩ := for_inv (F := evc T n) (tg := .one 4) (b := .cons (.asg 2 [] (.bin .mul (.v 2) (.ix (.v 0) (.k (.int 0))))) (.cons (.asg 3 [] (.bin .mul (.v 3) (.ix (.v 0) (.k (.int 1))))) .nil))
    (I := fun j e => ∃ s, e = [.fr (.tuple [.int q.num, .int q.den]), .fr (.int k), .fr (.int (q.num ^ j)), .fr (.int ((q.den : Int) ^ j)), s]) (rngL 0 k) 0
    (env := [.fr (.tuple [.int q.num, .int q.den]), .fr (.int k), .fr (.int 1), .fr (.int 1), .no]) ⟨_, by rw [Int.pow_zero, Int.pow_zero]⟩ (fun j d e hd he => by
      obtain ⟨s, he⟩ := he
      obtain ⟨hj, hd⟩ := rngL_get hd
      have hle : a * j ≤ a * k := Nat.mul_le_mul_left _ (by omega)
      subst he hd
      rw [Nat.zero_add]
      refine ⟨_, [.fr (.tuple [.int q.num, .int q.den]), .fr (.int k), .fr (.int (q.num ^ (j + 1))), .fr (.int ((q.den : Int) ^ (j + 1))), .fr (.int (0 + (j : Int)))], rfl, .inl ?_, ⟨_, rfl⟩⟩
      walk_at "cw"
      rw [mul_sz (hq.num.pow j) hq.num (by omega)]
      walk_at "cw"
      rw [mul_sz (hq.den.pow j) hq.den (by omega)]
      walk_at "cw"
      rw [Int.pow_succ, Int.pow_succ])
  rw [z]
  subst hs
  rw [rngL_len, Nat.zero_add]
  walk_at "cw"
  rw [Rat.num_pow, Rat.den_pow, Int.natCast_pow]
theorem gcd_loop2 {F : Nat → List D → R D} (s0 s1 : Sl) : ∀ (y x : Nat), whlS F [] (.cmp .gt (.v 3) (.k (.int 0))) (.cons (.par 2 3 [] (.v 3) (.bin .mod (.v 2) (.v 3))) .nil) [s0, s1, .fr (.int x), .fr (.int y)] = .next [s0, s1, .fr (.int (Nat.gcd x y)), .fr (.int 0)] := by
  intro y
  induction y using Nat.strongRecOn with
  | ind y ih =>
    intro x
    unfold whlS
    by_cases h : y = 0
    · subst h
      rw [whl_stop (by rfl)]
      simp
    · have hm : opR .mod (.int (x : Int)) (.int (y : Int)) = .ok (.int ((x % y : Nat) : Int)) := by
        rw [mod_pos (by omega)]; rfl
      have hy : ((0 : Int) < y) = True := eq_true (by omega)
      rw [whl_next (e := [s0, s1, .fr (.int y), .fr (.int ((x % y : Nat) : Int))]) (by walk_at "cw"; simp only [hy]; rfl) (by walk_at "cw"; rw [hm]; rfl)]
      have z := ih (x % y) (Nat.mod_lt _ (by omega)) y
      unfold whlS at z
      rw [z, Nat.gcd_comm x y, Nat.gcd_rec y x, Nat.gcd_comm]
theorem made_ok (n : Nat) (t : Int) {u : Int} (hu : 0 < u) : evc T (n + 1) 1002 [.int t, .int u] = .ok (fr (Rat.divInt t u)) := by
  have hg : 0 < (Int.gcd t u : Int) := by
    have := Int.gcd_pos_of_ne_zero_right t (b := u) (by omega)
    omega
  have hn : (u : Int) = (u.natAbs : Int) := by omega
  have z := fun s0 s1 => gcd_loop2 (F := evc T n) s0 s1 u.natAbs t.natAbs
  rw [← hn, show ((t.natAbs.gcd u.natAbs : Nat) : Int) = (Int.gcd t u : Int) from rfl] at z
  have e1 : (Rat.divInt t u).num = t / (Int.gcd t u : Int) := by rw [Rat.num_divInt, Int.gcd_comm, Int.sign_eq_one_of_pos hu, Int.one_mul]
  have e2 : ((Rat.divInt t u).den : Int) = u / (Int.gcd t u : Int) := by
    rw [Rat.den_divInt, if_neg (by omega), Int.gcd_comm]; rw [Int.natCast_ediv, ← hn]
  unfold fr
  rw [e1, e2, evc_b b1 rfl rfl]
  unfold d_law_made
  walk_at "cw"
  rw [z]
  walk_at "cw"
  rw [fdiv_pos hg, fdiv_pos hg]
  walk_at "cw"
noncomputable def cellF (ns : List Int) (k : Nat) : Int := if ns = [] then (k : Int) * 7919 else ns.getD (k % ns.length) 0 + (k : Int) / ns.length * 104729
theorem cell_ok (n : Nat) (ns : List Int) (k : Nat) : evc T (n + 1) 1000 [.list (ns.map PyData.int), .int k] = .ok (.int (cellF ns k)) := by
  rw [evc_b b1 rfl rfl]
  unfold d_law_cell
  walk_at "cw"
  rw [eq_sh (sh_ints ns) rfl]
  walk_at "cw"
  unfold cellF
  cases ns with
  | nil =>
    rw [if_pos rfl]
    simp only [List.map_nil]
    have e : PyData.eqv (.list []) (.list []) = true := rfl
    rw [e]
    walk_at "cw"
    rw [mul_r (by decide)]
    walk_at "cw"
  | cons a l =>
    rw [if_neg (show ¬ (a :: l = []) from by simp)]
    have e : PyData.eqv (.list ((a :: l).map PyData.int)) (.list []) = false := by simp only [List.map_cons]; rfl
    rw [e]
    generalize hl : a :: l = L
    have hL : 0 < L.length := by rw [← hl]; simp
    walk_at "cw"
    rw [mod_pos (by omega), fdiv_pos (by omega)]
    walk_at "cw"
    rw [show (k : Int) % (L.length : Int) = ((k % L.length : Nat) : Int) from rfl, ix_nat, List.getElem?_map, List.getElem?_eq_getElem (Nat.mod_lt _ hL), mul_r (by decide)]
    simp only [Option.map_some, ofO]
    walk_at "cw"
    rw [List.getD_eq_getElem?_getD, List.getElem?_eq_getElem (Nat.mod_lt _ hL)]
    rfl
noncomputable def drawF (c k : Int) : Int :=
  let m := (c * 6364136223846793005 + (k + 1) * 1442695040888963407) % 340282366920938463463374607431768211507
  let m := m * m % 340282366920938463463374607431768211297
  ((m % 18446744073709551557 + 1) * (m / 18446744073709551557 + 1) * m) % 340282366920938463463374607431768211507
theorem drawF_nn (c k : Int) : 0 ≤ drawF c k := Int.emod_nonneg _ (by decide)
theorem drawF_lt (c k : Int) : drawF c k < 340282366920938463463374607431768211507 := Int.emod_lt_of_pos _ (by decide)
theorem drawn_ok (n : Nat) (c k : Int) : evc T (n + 1) 1001 [.int c, .int k] = .ok (.int (drawF c k)) := by
  unfold drawF
  rw [evc_b b1 rfl rfl]
  unfold d_law_drawn
  walk_at "cw"
  rw [mul_r (by decide), mul_r (by decide)]
  walk_at "cw"
  rw [mod_pos (by decide)]
  generalize hm : (c * 6364136223846793005 + (k + 1) * 1442695040888963407) % 340282366920938463463374607431768211507 = m
  have h1 : 0 ≤ m := by rw [← hm]; exact Int.emod_nonneg _ (by decide)
  have h2 : m < 340282366920938463463374607431768211507 := by rw [← hm]; exact Int.emod_lt_of_pos _ (by decide)
  have sm : Sz 130 m := by unfold Sz; omega
  walk_at "cw"
  rw [mul_sz sm sm (by decide)]
  walk_at "cw"
  rw [mod_pos (by decide)]
  generalize hm2 : m * m % 340282366920938463463374607431768211297 = m2
  have h3 : 0 ≤ m2 := by rw [← hm2]; exact Int.emod_nonneg _ (by decide)
  have h4 : m2 < 340282366920938463463374607431768211297 := by rw [← hm2]; exact Int.emod_lt_of_pos _ (by decide)
  have sm2 : Sz 130 m2 := by unfold Sz; omega
  walk_at "cw"
  rw [mod_pos (by decide), fdiv_pos (by decide)]
  walk_at "cw"
  have s3 : Sz 70 (m2 % 18446744073709551557 + 1) := by unfold Sz; omega
  have s4 : Sz 70 (m2 / 18446744073709551557 + 1) := by unfold Sz; omega
  rw [mul_sz s3 s4 (by decide)]
  walk_at "cw"
  rw [mul_sz (s3.mul s4) sm2 (by decide)]
  walk_at "cw"
  rw [mod_pos (by decide)]
  walk_at "cw"
theorem lawfr_ok (n : Nat) {m : Int} (h : 0 ≤ m) : ∃ q, evc T (n + 2) 1003 [.int m] = .ok (fr q) ∧ Qz 40 q ∧ q.num.natAbs ≤ 100000000000 ∧ q.den ≤ 1000 := by
  obtain ⟨d1, x1, t, rfl, ht⟩ := ix_all (l := [.int (m % 13 - 6), .int (m % 2001 - 1000), .int 0, .int (m % 200000000000 - 100000000000)]) (i := m / 1099511627776 % 4) (by omega) (by simp only [List.length_cons, List.length_nil]; omega)
    (P := fun d => ∃ t : Int, d = .int t ∧ t.natAbs ≤ 100000000000) (by
      simp only [List.forall_mem_cons, List.not_mem_nil, false_imp_iff, implies_true, and_true]
      exact ⟨⟨_, rfl, by omega⟩, ⟨_, rfl, by omega⟩, ⟨_, rfl, by omega⟩, ⟨_, rfl, by omega⟩⟩)
  obtain ⟨d2, x2, u, rfl, hu⟩ := ix_all (l := [.int 1, .int (1 + m / 4398046511104 % 9), .int (1 + m / 4398046511104 % 1000)]) (i := m / 72057594037927936 % 3) (by omega) (by simp only [List.length_cons, List.length_nil]; omega)
    (P := fun d => ∃ t : Int, d = .int t ∧ 0 < t ∧ t ≤ 1000) (by
      simp only [List.forall_mem_cons, List.not_mem_nil, false_imp_iff, implies_true, and_true]
      exact ⟨⟨_, rfl, by omega⟩, ⟨_, rfl, by omega⟩, ⟨_, rfl, by omega⟩⟩)
  refine ⟨Rat.divInt t u, ?_, Qz.divInt (by unfold Sz; omega) (by unfold Sz; omega) (by omega), ?_, ?_⟩
  · rw [evc_b b1 rfl rfl]
    unfold d_law_fraction
    walk_at "cw"
    rw [mul_r (by decide), mod_pos (by decide), mod_pos (by decide)]
    walk_at "cw"
    rw [show (2 : Int) * 100000000000 = 200000000000 from rfl, mod_pos (by decide), fdiv_pos (by decide)]
    walk_at "cw"
    rw [mod_pos (by decide)]
    walk_at "cw"
    rw [x1]
    walk_at "cw"
    rw [fdiv_pos (by decide), fdiv_pos (by decide)]
    walk_at "cw"
    rw [mod_pos (by decide), mod_pos (by decide), mod_pos (by decide)]
    walk_at "cw"
    rw [x2]
    walk_at "cw"
    rw [made_ok _ _ hu.1]
    walk_at "cw"
  · rw [Rat.num_divInt, Int.sign_eq_one_of_pos hu.1, Int.one_mul]
    exact Nat.le_trans (Int.natAbs_ediv_le_natAbs _ _) ht
  · rw [Rat.den_divInt, if_neg (by omega)]
    exact Nat.le_trans (Nat.div_le_self _ _) (by omega)
noncomputable def downR (q : Rat) (b : Nat) : Rat := Rat.divInt (q.num * 2 ^ b / q.den) (2 ^ b)
theorem sz_two (b : Nat) : Sz (b + 1) ((2 : Int) ^ b) := by
  unfold Sz
  rw [Int.natAbs_pow]
  exact Nat.pow_lt_pow_right (by decide) (by omega)
theorem two_pos (b : Nat) : 0 < (2 : Int) ^ b := Int.pow_pos (by decide)
theorem down_ok (n : Nat) {q : Rat} {a b : Nat} (hq : Qz a q) (hb : b ≤ 1000000) (h : a + b + 1 ≤ 134217728) : evc T (n + 3) 15 [fr q, .int b] = .ok (fr (downR q b)) := by
  rw [evc_b b1 rfl rfl]
  unfold d_down_to fr
  walk_at "cw"
  rw [shl_int' ⟨by omega, by omega, by decide⟩]
  walk_at "cw"
  rw [Int.toNat_natCast, Int.one_mul, mul_sz hq.num (sz_two b) (by omega)]
  walk_at "cw"
  rw [fdiv_pos (den_pos q)]
  walk_at "cw"
  rw [fraction_ok _ _ (Int.ne_of_gt (two_pos b))]
  rfl
theorem up_ok (n : Nat) {q : Rat} {a b : Nat} (hq : Qz a q) (hb : b ≤ 1000000) (h : a + b + 1 ≤ 134217728) : evc T (n + 4) 16 [fr q, .int b] = .ok (fr (-downR (-q) b)) := by
  rw [evc_b b1 rfl rfl]
  unfold d_up_to
  walk_at "cw"
  rw [opposite_ok]
  walk_at "cw"
  rw [down_ok _ hq.neg hb h]
  walk_at "cw"
  rw [opposite_ok]
  walk_at "cw"
end
end Cw

set_option Elab.async false
set_option linter.all false
set_option maxRecDepth 100000
set_option maxHeartbeats 0
namespace K91
open PySem Cw
def d_least_of : Def := ⟨1, 3, (.cons (.asg 1 [] (.ix (.v 0) (.k (.int 0)))) (.cons (.for_ [] (.one 2) (.seq (.v 0)) (.cons (.iff [] (.cmp .lt (.call 22 (.cons (.v 2) (.cons (.v 1) .nil))) (.k (.int 0))) (.cons (.asg 1 [] (.v 2)) .nil) .nil) .nil)) (.cons (.ret [] (.v 1)) .nil)))⟩
def d_greatest_of : Def := ⟨1, 3, (.cons (.asg 1 [] (.ix (.v 0) (.k (.int 0)))) (.cons (.for_ [] (.one 2) (.seq (.v 0)) (.cons (.iff [] (.cmp .gt (.call 22 (.cons (.v 2) (.cons (.v 1) .nil))) (.k (.int 0))) (.cons (.asg 1 [] (.v 2)) .nil) .nil) .nil)) (.cons (.ret [] (.v 1)) .nil)))⟩
def d_around : Def := ⟨1, 1, (.cons (.ret [] (.tup (.cons (.call 23 (.cons (.v 0) .nil)) (.cons (.call 24 (.cons (.v 0) .nil)) .nil)))) .nil)⟩
def d_has : Def := ⟨2, 2, (.cons (.ret [] (.and (.cons (.cmp .le (.call 22 (.cons (.ix (.v 0) (.k (.int 0))) (.cons (.v 1) .nil))) (.k (.int 0))) (.cons (.cmp .le (.call 22 (.cons (.v 1) (.cons (.ix (.v 0) (.k (.int 1))) .nil))) (.k (.int 0))) .nil)))) .nil)⟩
def d_sum_of : Def := ⟨2, 2, (.cons (.ret [] (.tup (.cons (.call 17 (.cons (.ix (.v 0) (.k (.int 0))) (.cons (.ix (.v 1) (.k (.int 0))) .nil))) (.cons (.call 17 (.cons (.ix (.v 0) (.k (.int 1))) (.cons (.ix (.v 1) (.k (.int 1))) .nil))) .nil)))) .nil)⟩
def d_less_of : Def := ⟨2, 2, (.cons (.ret [] (.tup (.cons (.call 18 (.cons (.ix (.v 0) (.k (.int 0))) (.cons (.ix (.v 1) (.k (.int 1))) .nil))) (.cons (.call 18 (.cons (.ix (.v 0) (.k (.int 1))) (.cons (.ix (.v 1) (.k (.int 0))) .nil))) .nil)))) .nil)⟩
def d_product_of : Def := ⟨2, 2, (.cons (.ret [] (.call 25 (.cons (.lst (.cons (.call 19 (.cons (.ix (.v 0) (.k (.int 0))) (.cons (.ix (.v 1) (.k (.int 0))) .nil))) (.cons (.call 19 (.cons (.ix (.v 0) (.k (.int 0))) (.cons (.ix (.v 1) (.k (.int 1))) .nil))) (.cons (.call 19 (.cons (.ix (.v 0) (.k (.int 1))) (.cons (.ix (.v 1) (.k (.int 0))) .nil))) (.cons (.call 19 (.cons (.ix (.v 0) (.k (.int 1))) (.cons (.ix (.v 1) (.k (.int 1))) .nil))) .nil))))) .nil))) .nil)⟩
def d_power_of : Def := ⟨2, 3, (.cons (.iff [] (.cmp .eq (.v 1) (.k (.int 0))) (.cons (.ret [] (.tup (.cons (.g 1) (.cons (.g 1) .nil)))) .nil) .nil) (.cons (.asgL 2 [] (.lst (.cons (.call 21 (.cons (.ix (.v 0) (.k (.int 0))) (.cons (.v 1) .nil))) (.cons (.call 21 (.cons (.ix (.v 0) (.k (.int 1))) (.cons (.v 1) .nil))) .nil)))) (.cons (.iff [] (.and (.cons (.cmp .eq (.bin .mod (.v 1) (.k (.int 2))) (.k (.int 0))) (.cons (.call 26 (.cons (.v 0) (.cons (.g 0) .nil))) .nil))) (.cons (.app 2 [] (.g 0)) .nil) .nil) (.cons (.ret [2] (.call 25 (.cons (.v 2) .nil))) .nil))))⟩
def d_quotient_of : Def := ⟨2, 2, (.cons (.iff [] (.call 26 (.cons (.v 1) (.cons (.g 0) .nil))) (.cons (.ret [] (.k .none)) .nil) .nil) (.cons (.ret [] (.call 25 (.cons (.lst (.cons (.call 20 (.cons (.ix (.v 0) (.k (.int 0))) (.cons (.ix (.v 1) (.k (.int 0))) .nil))) (.cons (.call 20 (.cons (.ix (.v 0) (.k (.int 0))) (.cons (.ix (.v 1) (.k (.int 1))) .nil))) (.cons (.call 20 (.cons (.ix (.v 0) (.k (.int 1))) (.cons (.ix (.v 1) (.k (.int 0))) .nil))) (.cons (.call 20 (.cons (.ix (.v 0) (.k (.int 1))) (.cons (.ix (.v 1) (.k (.int 1))) .nil))) .nil))))) .nil))) .nil))⟩
def d_is_within : Def := ⟨2, 4, (.cons (.ret [] (.bf .all (.cons (.lc [2, 3] (.and (.cons (.call 26 (.cons (.v 3) (.cons (.ix (.v 2) (.k (.int 0))) .nil))) (.cons (.call 26 (.cons (.v 3) (.cons (.ix (.v 2) (.k (.int 1))) .nil))) .nil))) (.many [2, 3]) (.zip (.v 0) (.v 1)) .no) .nil))) .nil)⟩
def d_met : Def := ⟨2, 7, (.cons (.asgL 2 [] (.lst .nil)) (.cons (.for_ [] (.many [3, 4]) (.zip (.v 0) (.v 1)) (.cons (.asg 5 [] (.call 24 (.cons (.lst (.cons (.ix (.v 3) (.k (.int 0))) (.cons (.ix (.v 4) (.k (.int 0))) .nil))) .nil))) (.cons (.asg 6 [] (.call 23 (.cons (.lst (.cons (.ix (.v 3) (.k (.int 1))) (.cons (.ix (.v 4) (.k (.int 1))) .nil))) .nil))) (.cons (.iff [] (.cmp .gt (.call 22 (.cons (.v 5) (.cons (.v 6) .nil))) (.k (.int 0))) (.cons (.ret [] (.k .none)) .nil) .nil) (.cons (.app 2 [] (.tup (.cons (.v 5) (.cons (.v 6) .nil)))) .nil))))) (.cons (.ret [2] (.bf .tuple (.cons (.v 2) .nil))) .nil)))⟩
def d_hull : Def := ⟨2, 4, (.cons (.ret [] (.bf .tuple (.cons (.lc [2, 3] (.tup (.cons (.call 23 (.cons (.lst (.cons (.ix (.v 2) (.k (.int 0))) (.cons (.ix (.v 3) (.k (.int 0))) .nil))) .nil)) (.cons (.call 24 (.cons (.lst (.cons (.ix (.v 2) (.k (.int 1))) (.cons (.ix (.v 3) (.k (.int 1))) .nil))) .nil)) .nil))) (.many [2, 3]) (.zip (.v 0) (.v 1)) .no) .nil))) .nil)⟩
def d_with_side : Def := ⟨3, 3, (.cons (.ret [] (.bin .add (.bin .add (.sl (.v 0) .no (.yes (.v 1))) (.tup (.cons (.v 2) .nil))) (.sl (.v 0) (.yes (.bin .add (.v 1) (.k (.int 1)))) .no))) .nil)⟩
def d_halves : Def := ⟨3, 3, (.cons (.iff [] (.not (.call 26 (.cons (.ix (.v 0) (.v 1)) (.cons (.v 2) .nil)))) (.cons (.rais "NoStretch") .nil) .nil) (.cons (.ret [] (.tup (.cons (.call 44 (.cons (.v 0) (.cons (.v 1) (.cons (.tup (.cons (.ix (.ix (.v 0) (.v 1)) (.k (.int 0))) (.cons (.v 2) .nil))) .nil)))) (.cons (.call 44 (.cons (.v 0) (.cons (.v 1) (.cons (.tup (.cons (.v 2) (.cons (.ix (.ix (.v 0) (.v 1)) (.k (.int 1))) .nil))) .nil)))) .nil)))) .nil))⟩
def d_middle_of : Def := ⟨1, 2, (.cons (.ret [] (.bf .tuple (.cons (.lc [1] (.call 20 (.cons (.call 17 (.cons (.ix (.v 1) (.k (.int 0))) (.cons (.ix (.v 1) (.k (.int 1))) .nil))) (.cons (.g 2) .nil))) (.one 1) (.seq (.v 0)) .no) .nil))) .nil)⟩
def d_corners : Def := ⟨1, 7, (.cons (.asg 1 [] (.lst (.cons (.tup .nil) .nil))) (.cons (.for_ [] (.one 2) (.seq (.v 0)) (.cons (.asg 3 [] (.ife (.cmp .eq (.ix (.v 2) (.k (.int 0))) (.ix (.v 2) (.k (.int 1)))) (.lst (.cons (.ix (.v 2) (.k (.int 0))) .nil)) (.lst (.cons (.ix (.v 2) (.k (.int 0))) (.cons (.ix (.v 2) (.k (.int 1))) .nil))))) (.cons (.asgL 4 [] (.lst .nil)) (.cons (.for_ [] (.one 5) (.seq (.v 1)) (.cons (.ext 4 [] (.lc [6] (.bin .add (.v 5) (.tup (.cons (.v 6) .nil))) (.one 6) (.seq (.v 3)) .no)) .nil)) (.cons (.asg 1 [4] (.v 4)) .nil))))) (.cons (.ret [] (.v 1)) .nil)))⟩
def d_widest : Def := ⟨1, 4, (.cons (.asg 1 [] (.k (.int 0))) (.cons (.for_ [] (.many [2, 3]) (.enum (.v 0)) (.cons (.iff [] (.cmp .gt (.call 22 (.cons (.call 18 (.cons (.ix (.v 3) (.k (.int 1))) (.cons (.ix (.v 3) (.k (.int 0))) .nil))) (.cons (.call 18 (.cons (.ix (.ix (.v 0) (.v 1)) (.k (.int 1))) (.cons (.ix (.ix (.v 0) (.v 1)) (.k (.int 0))) .nil))) .nil))) (.k (.int 0))) (.cons (.asg 1 [] (.v 2)) .nil) .nil) .nil)) (.cons (.ret [] (.v 1)) .nil)))⟩
def d_at_point : Def := ⟨1, 2, (.cons (.ret [] (.bf .tuple (.cons (.lc [1] (.tup (.cons (.v 1) (.cons (.v 1) .nil))) (.one 1) (.seq (.v 0)) .no) .nil))) .nil)⟩
def d_sum_term : Def := ⟨2, 2, (.cons (.iff [] (.cmp .eq (.v 0) (.g 3)) (.cons (.ret [] (.v 1)) .nil) .nil) (.cons (.iff [] (.cmp .eq (.v 1) (.g 3)) (.cons (.ret [] (.v 0)) .nil) .nil) (.cons (.iff [] (.and (.cons (.cmp .eq (.ix (.v 0) (.k (.int 0))) (.k (.str "num"))) (.cons (.cmp .eq (.ix (.v 1) (.k (.int 0))) (.k (.str "num"))) .nil))) (.cons (.ret [] (.tup (.cons (.k (.str "num")) (.cons (.call 17 (.cons (.ix (.v 0) (.k (.int 1))) (.cons (.ix (.v 1) (.k (.int 1))) .nil))) .nil)))) .nil) .nil) (.cons (.ret [] (.tup (.cons (.k (.str "sum")) (.cons (.v 0) (.cons (.v 1) .nil))))) .nil))))⟩
def d_less_term : Def := ⟨2, 2, (.cons (.iff [] (.cmp .eq (.v 1) (.g 3)) (.cons (.ret [] (.v 0)) .nil) .nil) (.cons (.ret [] (.tup (.cons (.k (.str "less")) (.cons (.v 0) (.cons (.v 1) .nil))))) .nil))⟩
def d_times_term : Def := ⟨2, 2, (.cons (.iff [] (.or (.cons (.cmp .eq (.v 0) (.g 3)) (.cons (.cmp .eq (.v 1) (.g 3)) .nil))) (.cons (.ret [] (.g 3)) .nil) .nil) (.cons (.iff [] (.cmp .eq (.v 0) (.g 4)) (.cons (.ret [] (.v 1)) .nil) .nil) (.cons (.iff [] (.cmp .eq (.v 1) (.g 4)) (.cons (.ret [] (.v 0)) .nil) .nil) (.cons (.iff [] (.and (.cons (.cmp .eq (.ix (.v 0) (.k (.int 0))) (.k (.str "num"))) (.cons (.cmp .eq (.ix (.v 1) (.k (.int 0))) (.k (.str "num"))) .nil))) (.cons (.ret [] (.tup (.cons (.k (.str "num")) (.cons (.call 19 (.cons (.ix (.v 0) (.k (.int 1))) (.cons (.ix (.v 1) (.k (.int 1))) .nil))) .nil)))) .nil) .nil) (.cons (.ret [] (.tup (.cons (.k (.str "times")) (.cons (.v 0) (.cons (.v 1) .nil))))) .nil)))))⟩
def d_power_term : Def := ⟨2, 2, (.cons (.iff [] (.cmp .eq (.v 1) (.k (.int 0))) (.cons (.ret [] (.g 4)) .nil) .nil) (.cons (.iff [] (.cmp .eq (.v 1) (.k (.int 1))) (.cons (.ret [] (.v 0)) .nil) .nil) (.cons (.ret [] (.tup (.cons (.k (.str "power")) (.cons (.v 0) (.cons (.v 1) .nil))))) .nil)))⟩
def d_over_slope : Def := ⟨3, 4, (.cons (.asg 3 [] (.call 35 (.cons (.call 36 (.cons (.v 1) (.cons (.ix (.v 0) (.k (.int 2))) .nil))) (.cons (.call 36 (.cons (.ix (.v 0) (.k (.int 1))) (.cons (.v 2) .nil))) .nil)))) (.cons (.iff [] (.cmp .eq (.v 3) (.g 3)) (.cons (.ret [] (.g 3)) .nil) .nil) (.cons (.ret [] (.tup (.cons (.k (.str "over")) (.cons (.v 3) (.cons (.tup (.cons (.k (.str "power")) (.cons (.ix (.v 0) (.k (.int 2))) (.cons (.k (.int 2)) .nil)))) .nil))))) .nil)))⟩
def d_slope : Def := ⟨2, 5, (.cons (.asg 2 [] (.ix (.v 0) (.k (.int 0)))) (.cons (.iff [] (.cmp .eq (.v 2) (.k (.str "num"))) (.cons (.ret [] (.g 3)) .nil) .nil) (.cons (.iff [] (.cmp .eq (.v 2) (.k (.str "var"))) (.cons (.ret [] (.ife (.cmp .eq (.ix (.v 0) (.k (.int 1))) (.v 1)) (.g 4) (.g 3))) .nil) .nil) (.cons (.asg 3 [] (.call 39 (.cons (.ix (.v 0) (.k (.int 1))) (.cons (.v 1) .nil)))) (.cons (.iff [] (.cmp .eq (.v 2) (.k (.str "power"))) (.cons (.iff [] (.cmp .eq (.ix (.v 0) (.k (.int 2))) (.k (.int 0))) (.cons (.ret [] (.g 3)) .nil) .nil) (.cons (.ret [] (.call 36 (.cons (.tup (.cons (.k (.str "num")) (.cons (.tup (.cons (.ix (.v 0) (.k (.int 2))) (.cons (.k (.int 1)) .nil))) .nil))) (.cons (.call 36 (.cons (.call 37 (.cons (.ix (.v 0) (.k (.int 1))) (.cons (.bin .sub (.ix (.v 0) (.k (.int 2))) (.k (.int 1))) .nil))) (.cons (.v 3) .nil))) .nil)))) .nil)) .nil) (.cons (.asg 4 [] (.call 39 (.cons (.ix (.v 0) (.k (.int 2))) (.cons (.v 1) .nil)))) (.cons (.iff [] (.cmp .eq (.v 2) (.k (.str "sum"))) (.cons (.ret [] (.call 34 (.cons (.v 3) (.cons (.v 4) .nil)))) .nil) .nil) (.cons (.iff [] (.cmp .eq (.v 2) (.k (.str "less"))) (.cons (.ret [] (.call 35 (.cons (.v 3) (.cons (.v 4) .nil)))) .nil) .nil) (.cons (.iff [] (.cmp .eq (.v 2) (.k (.str "times"))) (.cons (.ret [] (.call 34 (.cons (.call 36 (.cons (.v 3) (.cons (.ix (.v 0) (.k (.int 2))) .nil))) (.cons (.call 36 (.cons (.ix (.v 0) (.k (.int 1))) (.cons (.v 4) .nil))) .nil)))) .nil) .nil) (.cons (.ret [] (.call 38 (.cons (.v 0) (.cons (.v 3) (.cons (.v 4) .nil))))) .nil))))))))))⟩
def d_joined : Def := ⟨3, 3, (.cons (.iff [] (.cmp .eq (.v 0) (.k (.str "sum"))) (.cons (.ret [] (.call 27 (.cons (.v 1) (.cons (.v 2) .nil)))) .nil) .nil) (.cons (.iff [] (.cmp .eq (.v 0) (.k (.str "less"))) (.cons (.ret [] (.call 28 (.cons (.v 1) (.cons (.v 2) .nil)))) .nil) .nil) (.cons (.iff [] (.cmp .eq (.v 0) (.k (.str "times"))) (.cons (.ret [] (.call 29 (.cons (.v 1) (.cons (.v 2) .nil)))) .nil) .nil) (.cons (.ret [] (.call 31 (.cons (.v 1) (.cons (.v 2) .nil)))) .nil))))⟩
def d_cover : Def := ⟨2, 5, (.cons (.asg 2 [] (.ix (.v 0) (.k (.int 0)))) (.cons (.iff [] (.cmp .eq (.v 2) (.k (.str "num"))) (.cons (.ret [] (.tup (.cons (.ix (.v 0) (.k (.int 1))) (.cons (.ix (.v 0) (.k (.int 1))) .nil)))) .nil) .nil) (.cons (.iff [] (.cmp .eq (.v 2) (.k (.str "var"))) (.cons (.ret [] (.ix (.v 1) (.ix (.v 0) (.k (.int 1))))) .nil) .nil) (.cons (.asg 3 [] (.call 51 (.cons (.ix (.v 0) (.k (.int 1))) (.cons (.v 1) .nil)))) (.cons (.iff [] (.cmp .is (.v 3) (.k .none)) (.cons (.ret [] (.k .none)) .nil) .nil) (.cons (.iff [] (.cmp .eq (.v 2) (.k (.str "power"))) (.cons (.ret [] (.call 30 (.cons (.v 3) (.cons (.ix (.v 0) (.k (.int 2))) .nil)))) .nil) .nil) (.cons (.asg 4 [] (.call 51 (.cons (.ix (.v 0) (.k (.int 2))) (.cons (.v 1) .nil)))) (.cons (.iff [] (.cmp .is (.v 4) (.k .none)) (.cons (.ret [] (.k .none)) .nil) .nil) (.cons (.ret [] (.call 50 (.cons (.v 2) (.cons (.v 3) (.cons (.v 4) .nil))))) .nil)))))))))⟩
def d_sloped : Def := ⟨3, 9, (.cons (.asg 3 [] (.call 51 (.cons (.v 0) (.cons (.call 49 (.cons (.v 2) .nil)) .nil)))) (.cons (.iff [] (.cmp .is (.v 3) (.k .none)) (.cons (.ret [] (.k .none)) .nil) .nil) (.cons (.asg 4 [] (.call 43 (.cons (.v 1) (.cons (.call 49 (.cons (.v 2) .nil)) .nil)))) (.cons (.iff [] (.cmp .is (.call 51 (.cons (.v 0) (.cons (.v 4) .nil))) (.k .none)) (.cons (.ret [] (.k .none)) .nil) .nil) (.cons (.for_ [] (.many [5, 6]) (.enum (.v 1)) (.cons (.asg 7 [] (.call 51 (.cons (.call 39 (.cons (.v 0) (.cons (.v 5) .nil))) (.cons (.v 4) .nil)))) (.cons (.iff [] (.cmp .is (.v 7) (.k .none)) (.cons (.ret [] (.k .none)) .nil) .nil) (.cons (.asg 8 [] (.tup (.cons (.call 18 (.cons (.ix (.v 6) (.k (.int 0))) (.cons (.ix (.v 2) (.v 5)) .nil))) (.cons (.call 18 (.cons (.ix (.v 6) (.k (.int 1))) (.cons (.ix (.v 2) (.v 5)) .nil))) .nil)))) (.cons (.asg 3 [] (.call 27 (.cons (.v 3) (.cons (.call 29 (.cons (.v 7) (.cons (.v 8) .nil))) .nil)))) .nil))))) (.cons (.ret [] (.v 3)) .nil))))))⟩
def d_parts : Def := ⟨1, 1, (.cons (.iff [] (.ins (.ix (.v 0) (.k (.int 0))) 0) (.cons (.ret [] (.lst (.cons (.ix (.v 0) (.k (.int 1))) (.cons (.ix (.v 0) (.k (.int 2))) .nil)))) .nil) .nil) (.cons (.iff [] (.cmp .eq (.ix (.v 0) (.k (.int 0))) (.k (.str "power"))) (.cons (.ret [] (.lst (.cons (.ix (.v 0) (.k (.int 1))) .nil))) .nil) .nil) (.cons (.ret [] (.lst .nil)) .nil)))⟩
def d_weight : Def := ⟨1, 3, (.cons (.iff [] (.cmp .eq (.ix (.v 0) (.k (.int 0))) (.k (.str "var"))) (.cons (.ret [] (.k (.int 1))) .nil) .nil) (.cons (.asg 1 [] (.lc [2] (.call 72 (.cons (.v 2) .nil)) (.one 2) (.seq (.call 71 (.cons (.v 0) .nil))) .no)) (.cons (.iff [] (.cmp .eq (.ix (.v 0) (.k (.int 0))) (.k (.str "power"))) (.cons (.ret [] (.bin .mul (.ix (.v 0) (.k (.int 2))) (.ix (.v 1) (.k (.int 0))))) .nil) .nil) (.cons (.iff [] (.cmp .isin (.ix (.v 0) (.k (.int 0))) (.tup (.cons (.k (.str "times")) (.cons (.k (.str "over")) .nil)))) (.cons (.ret [] (.bf .sum (.cons (.v 1) .nil))) .nil) .nil) (.cons (.ret [] (.mx0 (.v 1))) .nil)))))⟩
def d_is_small : Def := ⟨1, 2, (.cons (.iff [] (.cmp .eq (.ix (.v 0) (.k (.int 0))) (.k (.str "num"))) (.cons (.ret [] (.and (.cons (.cmp .lt (.bf .abs (.cons (.ix (.ix (.v 0) (.k (.int 1))) (.k (.int 0))) .nil)) (.g 9)) (.cons (.cmp .lt (.ix (.ix (.v 0) (.k (.int 1))) (.k (.int 1))) (.g 9)) .nil)))) .nil) .nil) (.cons (.iff [] (.cmp .eq (.ix (.v 0) (.k (.int 0))) (.k (.str "var"))) (.cons (.ret [] (.cmp2 .le .lt (.k (.int 0)) (.ix (.v 0) (.k (.int 1))) (.g 11))) .nil) .nil) (.cons (.iff [] (.and (.cons (.cmp .eq (.ix (.v 0) (.k (.int 0))) (.k (.str "power"))) (.cons (.not (.cmp2 .le .le (.k (.int 0)) (.ix (.v 0) (.k (.int 2))) (.g 10))) .nil))) (.cons (.ret [] (.k (.bool false))) .nil) .nil) (.cons (.ret [] (.bf .all (.cons (.lc [1] (.call 73 (.cons (.v 1) .nil)) (.one 1) (.seq (.call 71 (.cons (.v 0) .nil))) .no) .nil))) .nil))))⟩
def d_is_bounded : Def := ⟨1, 6, (.cons (.parL 1 2 [] (.lst (.cons (.tup (.cons (.v 0) (.cons (.k (.int 1)) .nil))) .nil)) (.k (.int 0))) (.cons (.whl [1] (.cmp .ne (.v 1) (.lst .nil)) (.cons (.popT [3, 4] 1) (.cons (.asg 2 [] (.bin .add (.v 2) (.k (.int 1)))) (.cons (.iff [] (.or (.cons (.cmp .gt (.v 2) (.g 7)) (.cons (.cmp .gt (.v 4) (.g 8)) .nil))) (.cons (.ret [] (.k (.bool false))) .nil) .nil) (.cons (.ext 1 [] (.lc [5] (.tup (.cons (.v 5) (.cons (.bin .add (.v 4) (.k (.int 1))) .nil))) (.one 5) (.seq (.call 71 (.cons (.v 3) .nil))) .no)) .nil))))) (.cons (.ret [] (.k (.bool true))) .nil)))⟩
def d_need_term : Def := ⟨1, 1, (.cons (.iff [] (.or (.cons (.not (.call 74 (.cons (.v 0) .nil))) (.cons (.not (.call 73 (.cons (.v 0) .nil))) (.cons (.cmp .gt (.call 72 (.cons (.v 0) .nil)) (.g 6)) .nil)))) (.cons (.rais "BadTerm") .nil) .nil) .nil)⟩
def d_arity : Def := ⟨1, 2, (.cons (.iff [] (.cmp .eq (.ix (.v 0) (.k (.int 0))) (.k (.str "var"))) (.cons (.ret [] (.bin .add (.ix (.v 0) (.k (.int 1))) (.k (.int 1)))) .nil) .nil) (.cons (.ret [] (.mx0 (.lc [1] (.call 76 (.cons (.v 1) .nil)) (.one 1) (.seq (.call 71 (.cons (.v 0) .nil))) .no))) .nil))⟩
def d_worth : Def := ⟨2, 5, (.cons (.asg 2 [] (.ix (.v 0) (.k (.int 0)))) (.cons (.iff [] (.cmp .eq (.v 2) (.k (.str "num"))) (.cons (.ret [] (.ix (.v 0) (.k (.int 1)))) .nil) .nil) (.cons (.iff [] (.cmp .eq (.v 2) (.k (.str "var"))) (.cons (.ret [] (.ix (.v 1) (.ix (.v 0) (.k (.int 1))))) .nil) .nil) (.cons (.asg 3 [] (.call 33 (.cons (.ix (.v 0) (.k (.int 1))) (.cons (.v 1) .nil)))) (.cons (.iff [] (.cmp .eq (.v 2) (.k (.str "power"))) (.cons (.ret [] (.call 21 (.cons (.v 3) (.cons (.ix (.v 0) (.k (.int 2))) .nil)))) .nil) .nil) (.cons (.asg 4 [] (.call 33 (.cons (.ix (.v 0) (.k (.int 2))) (.cons (.v 1) .nil)))) (.cons (.iff [] (.cmp .eq (.v 2) (.k (.str "sum"))) (.cons (.ret [] (.call 17 (.cons (.v 3) (.cons (.v 4) .nil)))) .nil) .nil) (.cons (.iff [] (.cmp .eq (.v 2) (.k (.str "less"))) (.cons (.ret [] (.call 18 (.cons (.v 3) (.cons (.v 4) .nil)))) .nil) .nil) (.cons (.iff [] (.cmp .eq (.v 2) (.k (.str "times"))) (.cons (.ret [] (.call 19 (.cons (.v 3) (.cons (.v 4) .nil)))) .nil) .nil) (.cons (.iff [] (.cmp .eq (.v 4) (.g 0)) (.cons (.rais "NoWorth") .nil) .nil) (.cons (.ret [] (.call 20 (.cons (.v 3) (.cons (.v 4) .nil)))) .nil)))))))))))⟩
def d_shows : Def := ⟨3, 5, (.cons (.iff [] (.cmp .is (.v 1) (.k .none)) (.cons (.ret [] (.k (.bool false))) .nil) .nil) (.cons (.asg 3 [] (.cmp .gt (.call 22 (.cons (.ix (.v 1) (.k (.int 0))) (.cons (.v 2) .nil))) (.k (.int 0)))) (.cons (.asg 4 [] (.cmp .lt (.call 22 (.cons (.ix (.v 1) (.k (.int 1))) (.cons (.v 2) .nil))) (.k (.int 0)))) (.cons (.iff [] (.cmp .eq (.v 0) (.k (.str "above"))) (.cons (.ret [] (.v 3)) .nil) .nil) (.cons (.iff [] (.cmp .eq (.v 0) (.k (.str "below"))) (.cons (.ret [] (.v 4)) .nil) .nil) (.cons (.ret [] (.or (.cons (.v 3) (.cons (.v 4) .nil)))) .nil))))))⟩
def d_need_paper : Def := ⟨3, 3, (.cons (.iff [] (.cmp .gt (.v 2) (.g 12)) (.cons (.rais "BadPaper") .nil) .nil) (.cons (.iff [] (.and (.cons (.cmp .eq (.ix (.v 0) (.k (.int 0))) (.k (.str "slope"))) (.cons (.cmp .ne (.bf .len (.cons (.ix (.v 0) (.k (.int 1))) .nil)) (.v 1)) .nil))) (.cons (.rais "BadPaper") .nil) .nil) (.cons (.iff [] (.cmp .eq (.ix (.v 0) (.k (.int 0))) (.k (.str "split"))) (.cons (.iff [] (.not (.cmp2 .le .lt (.k (.int 0)) (.ix (.v 0) (.k (.int 1))) (.v 1))) (.cons (.rais "BadPaper") .nil) .nil) (.cons (.expr [] (.call 57 (.cons (.ix (.v 0) (.k (.int 3))) (.cons (.v 1) (.cons (.bin .add (.v 2) (.k (.int 1))) .nil))))) (.cons (.expr [] (.call 57 (.cons (.ix (.v 0) (.k (.int 4))) (.cons (.v 1) (.cons (.bin .add (.v 2) (.k (.int 1))) .nil))))) .nil))) .nil) .nil)))⟩
def d_is_shown : Def := ⟨3, 8, (.cons (.asgT [3, 4, 5] [] (.v 0)) (.cons (.iff [] (.cmp .eq (.ix (.v 2) (.k (.int 0))) (.k (.str "cover"))) (.cons (.ret [] (.call 56 (.cons (.v 3) (.cons (.call 51 (.cons (.v 4) (.cons (.v 1) .nil))) (.cons (.v 5) .nil))))) .nil) .nil) (.cons (.iff [] (.cmp .eq (.ix (.v 2) (.k (.int 0))) (.k (.str "slope"))) (.cons (.ret [] (.call 56 (.cons (.v 3) (.cons (.call 52 (.cons (.v 4) (.cons (.v 1) (.cons (.ix (.v 2) (.k (.int 1))) .nil)))) (.cons (.v 5) .nil))))) .nil) .nil) (.cons (.iff [] (.not (.call 26 (.cons (.ix (.v 1) (.ix (.v 2) (.k (.int 1)))) (.cons (.ix (.v 2) (.k (.int 2))) .nil)))) (.cons (.ret [] (.k (.bool false))) .nil) .nil) (.cons (.asgT [6, 7] [] (.call 45 (.cons (.v 1) (.cons (.ix (.v 2) (.k (.int 1))) (.cons (.ix (.v 2) (.k (.int 2))) .nil))))) (.cons (.ret [] (.and (.cons (.call 58 (.cons (.v 0) (.cons (.v 6) (.cons (.ix (.v 2) (.k (.int 3))) .nil)))) (.cons (.call 58 (.cons (.v 0) (.cons (.v 7) (.cons (.ix (.v 2) (.k (.int 4))) .nil)))) .nil)))) .nil))))))⟩
def d_stands : Def := ⟨3, 3, (.cons (.expr [] (.call 57 (.cons (.v 2) (.cons (.bf .len (.cons (.v 1) .nil)) (.cons (.k (.int 1)) .nil))))) (.cons (.ret [] (.call 58 (.cons (.v 0) (.cons (.v 1) (.cons (.v 2) .nil))))) .nil))⟩
def d_worth_or_none : Def := ⟨2, 3, (.cons (.asg 2 [] (.k .none)) (.cons (.tryN (.cons (.asg 2 [] (.call 33 (.cons (.v 0) (.cons (.v 1) .nil)))) .nil) "NoWorth" 2 .none) (.cons (.ret [] (.v 2)) .nil)))⟩
def d_leaf : Def := ⟨2, 6, (.cons (.asgT [3, 4, 5] [] (.v 0)) (.cons (.iff [] (.call 56 (.cons (.v 3) (.cons (.call 51 (.cons (.v 4) (.cons (.v 1) .nil))) (.cons (.v 5) .nil)))) (.cons (.ret [] (.tup (.cons (.k (.str "cover")) .nil))) .nil) .nil) (.cons (.asg 2 [] (.call 46 (.cons (.v 1) .nil))) (.cons (.iff [] (.call 56 (.cons (.v 3) (.cons (.call 52 (.cons (.v 4) (.cons (.v 1) (.cons (.v 2) .nil)))) (.cons (.v 5) .nil)))) (.cons (.ret [] (.tup (.cons (.k (.str "slope")) (.cons (.v 2) .nil)))) .nil) .nil) (.cons (.ret [] (.k .none)) .nil)))))⟩
def d_against : Def := ⟨2, 9, (.cons (.asgT [5, 6, 7] [] (.v 0)) (.cons (.asg 2 [] (.k .none)) (.cons (.asg 3 [] (.k .none)) (.cons (.for_ [] (.one 4) (.seq (.bin .add (.lst (.cons (.call 46 (.cons (.v 1) .nil)) .nil)) (.call 47 (.cons (.v 1) .nil)))) (.cons (.asg 8 [] (.call 61 (.cons (.v 6) (.cons (.v 4) .nil)))) (.cons (.iff [] (.or (.cons (.cmp .is (.v 8) (.k .none)) (.cons (.not (.call 56 (.cons (.v 5) (.cons (.tup (.cons (.v 8) (.cons (.v 8) .nil))) (.cons (.v 7) .nil))))) .nil))) (.cons (.ret [] (.lst (.cons (.v 4) .nil))) .nil) .nil) (.cons (.iff [] (.cmp .lt (.call 22 (.cons (.v 8) (.cons (.v 7) .nil))) (.k (.int 0))) (.cons (.asg 2 [] (.v 4)) .nil) (.cons (.asg 3 [] (.v 4)) .nil)) .nil)))) (.cons (.iff [] (.and (.cons (.cmp .isn (.v 2) (.k .none)) (.cons (.cmp .isn (.v 3) (.k .none)) .nil))) (.cons (.ret [] (.lst (.cons (.v 2) (.cons (.v 3) .nil)))) .nil) .nil) (.cons (.ret [] (.k .none)) .nil))))))⟩
def d_settled : Def := ⟨3, 11, (.cons (.asg 3 [] (.call 62 (.cons (.v 0) (.cons (.v 1) .nil)))) (.cons (.iff [] (.cmp .isn (.v 3) (.k .none)) (.cons (.ret [] (.tup (.cons (.k (.str "yes")) (.cons (.v 3) .nil)))) .nil) .nil) (.cons (.asg 4 [] (.call 63 (.cons (.v 0) (.cons (.v 1) .nil)))) (.cons (.iff [] (.cmp .isn (.v 4) (.k .none)) (.cons (.ret [] (.tup (.cons (.k (.str "no")) (.cons (.v 4) .nil)))) .nil) .nil) (.cons (.asg 5 [] (.call 48 (.cons (.v 1) .nil))) (.cons (.iff [] (.or (.cons (.cmp .eq (.v 2) (.k (.int 0))) (.cons (.cmp .eq (.ix (.ix (.v 1) (.v 5)) (.k (.int 0))) (.ix (.ix (.v 1) (.v 5)) (.k (.int 1)))) .nil))) (.cons (.ret [] (.tup (.cons (.k (.str "open")) (.cons (.v 1) .nil)))) .nil) .nil) (.cons (.asg 6 [] (.ix (.call 46 (.cons (.v 1) .nil)) (.v 5))) (.cons (.asgT [9, 10] [] (.call 45 (.cons (.v 1) (.cons (.v 5) (.cons (.v 6) .nil))))) (.cons (.asg 7 [] (.call 64 (.cons (.v 0) (.cons (.v 9) (.cons (.bin .sub (.v 2) (.k (.int 1))) .nil))))) (.cons (.iff [] (.cmp .eq (.ix (.v 7) (.k (.int 0))) (.k (.str "no"))) (.cons (.ret [] (.v 7)) .nil) .nil) (.cons (.asg 8 [] (.call 64 (.cons (.v 0) (.cons (.v 10) (.cons (.bin .sub (.v 2) (.k (.int 1))) .nil))))) (.cons (.iff [] (.cmp .eq (.ix (.v 8) (.k (.int 0))) (.k (.str "no"))) (.cons (.ret [] (.v 8)) .nil) .nil) (.cons (.iff [] (.cmp .eq (.ix (.v 7) (.k (.int 0))) (.k (.str "open"))) (.cons (.ret [] (.v 7)) .nil) .nil) (.cons (.iff [] (.cmp .eq (.ix (.v 8) (.k (.int 0))) (.k (.str "open"))) (.cons (.ret [] (.v 8)) .nil) .nil) (.cons (.ret [] (.tup (.cons (.k (.str "yes")) (.cons (.tup (.cons (.k (.str "split")) (.cons (.v 5) (.cons (.v 6) (.cons (.ix (.v 7) (.k (.int 1))) (.cons (.ix (.v 8) (.k (.int 1))) .nil)))))) .nil)))) .nil)))))))))))))))⟩
def d_sign_of : Def := ⟨1, 1, (.cons (.ret [] (.call 22 (.cons (.v 0) (.cons (.g 0) .nil)))) .nil)⟩
def d_end_signs : Def := ⟨3, 5, (.cons (.asg 3 [] (.lst (.cons (.call 61 (.cons (.v 0) (.cons (.tup (.cons (.v 1) .nil)) .nil))) (.cons (.call 61 (.cons (.v 0) (.cons (.tup (.cons (.v 2) .nil)) .nil))) .nil)))) (.cons (.iff [] (.cmp .isin (.k .none) (.v 3)) (.cons (.ret [] (.k .none)) .nil) .nil) (.cons (.ret [] (.lc [4] (.call 69 (.cons (.v 4) .nil)) (.one 4) (.seq (.v 3)) .no)) .nil)))⟩
def d_sort_of : Def := ⟨1, 1, (.cons (.iff [] (.or (.cons (.cmp .is (.v 0) (.k .none)) (.cons (.cmp .eq (.v 0) (.lst (.cons (.k (.int 0)) (.cons (.k (.int 0)) .nil)))) .nil))) (.cons (.ret [] (.k .none)) .nil) .nil) (.cons (.iff [] (.cmp .isin (.k (.int 0)) (.v 0)) (.cons (.ret [] (.k (.str "edge"))) .nil) .nil) (.cons (.ret [] (.ife (.cmp .eq (.ix (.v 0) (.k (.int 0))) (.ix (.v 0) (.k (.int 1)))) (.k (.str "same")) (.k (.str "one")))) .nil)))⟩
def d_places : Def := ⟨2, 8, (.cons (.asgL 2 [] (.lst .nil)) (.cons (.for_ [] (.many [3, 4, 5, 6]) (.seq (.v 1)) (.cons (.iff [] (.cmp .eq (.v 5) (.k (.str "open"))) (.cons (.app 2 [] (.tup (.cons (.k (.str "open")) (.cons (.v 3) (.cons (.v 4) .nil))))) .nil) (.cons (.iff [] (.cmp .eq (.v 5) (.k (.str "one"))) (.cons (.app 2 [] (.tup (.cons (.k (.str "in")) (.cons (.v 3) (.cons (.v 4) .nil))))) .nil) (.cons (.iff [] (.cmp .eq (.v 5) (.k (.str "edge"))) (.cons (.asg 7 [] (.ife (.cmp .eq (.call 33 (.cons (.v 0) (.cons (.tup (.cons (.v 3) .nil)) .nil))) (.g 0)) (.v 3) (.v 4))) (.cons (.iff [2] (.cmp .nin (.tup (.cons (.k (.str "at")) (.cons (.v 7) .nil))) (.v 2)) (.cons (.app 2 [] (.tup (.cons (.k (.str "at")) (.cons (.v 7) .nil)))) .nil) .nil) .nil)) .nil) .nil)) .nil)) .nil)) (.cons (.ret [2] (.v 2)) .nil)))⟩
def d_parts_of : Def := ⟨5, 9, (.cons (.asg 5 [] (.tup (.cons (.tup (.cons (.v 2) (.cons (.v 3) .nil))) .nil))) (.cons (.asg 6 [] (.call 62 (.cons (.tup (.cons (.k (.str "apart")) (.cons (.v 0) (.cons (.g 0) .nil)))) (.cons (.v 5) .nil)))) (.cons (.iff [] (.cmp .isn (.v 6) (.k .none)) (.cons (.ret [] (.lst (.cons (.tup (.cons (.v 2) (.cons (.v 3) (.cons (.k (.str "none")) (.cons (.v 6) .nil))))) .nil))) .nil) .nil) (.cons (.asg 6 [] (.call 62 (.cons (.tup (.cons (.k (.str "apart")) (.cons (.v 1) (.cons (.g 0) .nil)))) (.cons (.v 5) .nil)))) (.cons (.asg 7 [] (.call 78 (.cons (.call 77 (.cons (.v 0) (.cons (.v 2) (.cons (.v 3) .nil)))) .nil))) (.cons (.iff [] (.and (.cons (.cmp .isn (.v 6) (.k .none)) (.cons (.cmp .isn (.v 7) (.k .none)) (.cons (.cmp .ne (.v 2) (.v 3)) (.cons (.cmp .isn (.call 51 (.cons (.v 0) (.cons (.v 5) .nil))) (.k .none)) .nil))))) (.cons (.ret [] (.lst (.cons (.tup (.cons (.v 2) (.cons (.v 3) (.cons (.v 7) (.cons (.v 6) .nil))))) .nil))) .nil) .nil) (.cons (.iff [] (.or (.cons (.cmp .eq (.v 4) (.k (.int 0))) (.cons (.cmp .eq (.v 2) (.v 3)) .nil))) (.cons (.ret [] (.lst (.cons (.tup (.cons (.v 2) (.cons (.v 3) (.cons (.k (.str "open")) (.cons (.k .none) .nil))))) .nil))) .nil) .nil) (.cons (.asg 8 [] (.call 20 (.cons (.call 17 (.cons (.v 2) (.cons (.v 3) .nil))) (.cons (.g 2) .nil)))) (.cons (.ret [] (.bin .add (.call 79 (.cons (.v 0) (.cons (.v 1) (.cons (.v 2) (.cons (.v 8) (.cons (.bin .sub (.v 4) (.k (.int 1))) .nil)))))) (.call 79 (.cons (.v 0) (.cons (.v 1) (.cons (.v 8) (.cons (.v 3) (.cons (.bin .sub (.v 4) (.k (.int 1))) .nil)))))))) .nil)))))))))⟩
def d_zeros : Def := ⟨3, 3, (.cons (.expr [] (.call 75 (.cons (.v 0) .nil))) (.cons (.iff [] (.cmp .gt (.call 76 (.cons (.v 0) .nil)) (.k (.int 1))) (.cons (.rais "BadTerm") .nil) .nil) (.cons (.ret [] (.call 79 (.cons (.v 0) (.cons (.call 39 (.cons (.v 0) (.cons (.k (.int 0)) .nil))) (.cons (.ix (.v 1) (.k (.int 0))) (.cons (.ix (.v 1) (.k (.int 1))) (.cons (.v 2) .nil))))))) .nil)))⟩
def d_reach_of : Def := ⟨3, 6, (.cons (.asg 3 [] (.lc [4] (.v 4) (.one 4) (.seq (.tup (.cons (.call 51 (.cons (.v 0) (.cons (.v 1) .nil))) (.cons (.call 52 (.cons (.v 0) (.cons (.v 1) (.cons (.call 46 (.cons (.v 1) .nil)) .nil)))) .nil)))) (.yes (.cmp .isn (.v 4) (.k .none))))) (.cons (.iff [] (.cmp .eq (.v 3) (.lst .nil)) (.cons (.ret [] (.k .none)) .nil) .nil) (.cons (.asg 4 [] (.ix (.v 3) (.k (.int 0)))) (.cons (.for_ [] (.one 5) (.seq (.sl (.v 3) (.yes (.k (.int 1))) .no)) (.cons (.asg 4 [] (.ix (.call 42 (.cons (.tup (.cons (.v 4) .nil)) (.cons (.tup (.cons (.v 5) .nil)) .nil))) (.k (.int 0)))) .nil)) (.cons (.ret [] (.tup (.cons (.call 15 (.cons (.ix (.v 4) (.k (.int 0))) (.cons (.v 2) .nil))) (.cons (.call 16 (.cons (.ix (.v 4) (.k (.int 1))) (.cons (.v 2) .nil))) .nil)))) .nil)))))⟩
def d_moved_box : Def := ⟨3, 5, (.cons (.asg 3 [] (.lc [4] (.call 53 (.cons (.v 4) (.cons (.v 1) (.cons (.v 2) .nil)))) (.one 4) (.seq (.v 0)) .no)) (.cons (.iff [] (.cmp .isin (.k .none) (.v 3)) (.cons (.ret [] (.k .none)) .nil) .nil) (.cons (.ret [] (.bf .tuple (.cons (.v 3) .nil))) .nil)))⟩
def d_boxes_after : Def := ⟨4, 6, (.cons (.asgL 4 [] (.lst (.cons (.v 1) .nil))) (.cons (.for_ [] (.one 5) (.rng1 (.v 2)) (.cons (.asg 1 [] (.call 54 (.cons (.v 0) (.cons (.v 1) (.cons (.v 3) .nil))))) (.cons (.iff [] (.cmp .is (.v 1) (.k .none)) (.cons (.ret [4] (.v 4)) .nil) .nil) (.cons (.app 4 [] (.v 1)) .nil)))) (.cons (.ret [4] (.v 4)) .nil)))⟩
def d_lies_in : Def := ⟨2, 3, (.cons (.ret [] (.bf .any (.cons (.lc [2] (.call 41 (.cons (.v 0) (.cons (.v 2) .nil))) (.one 2) (.seq (.v 1)) .no) .nil))) .nil)⟩
def d_fence : Def := ⟨4, 6, (.cons (.asg 4 [] (.call 55 (.cons (.v 0) (.cons (.v 1) (.cons (.v 2) (.cons (.v 3) .nil)))))) (.cons (.for_ [] (.one 5) (.rng2 (.k (.int 1)) (.bf .len (.cons (.v 4) .nil))) (.cons (.iff [] (.call 67 (.cons (.ix (.v 4) (.v 5)) (.cons (.sl (.v 4) .no (.yes (.v 5))) .nil))) (.cons (.ret [] (.sl (.v 4) .no (.yes (.v 5)))) .nil) .nil) .nil)) (.cons (.ret [] (.k .none)) .nil)))⟩
def d_at_number : Def := ⟨1, 1, (.cons (.ret [] (.tup (.cons (.v 0) (.cons (.v 0) .nil)))) .nil)⟩
def d_scaled : Def := ⟨2, 2, (.cons (.ret [] (.call 29 (.cons (.call 99 (.cons (.v 0) .nil)) (.cons (.v 1) .nil)))) .nil)⟩
def d_row_of : Def := ⟨5, 5, (.cons (.ret [] (.call 28 (.cons (.call 99 (.cons (.v 0) .nil)) (.cons (.call 27 (.cons (.call 100 (.cons (.v 1) (.cons (.v 3) .nil))) (.cons (.call 100 (.cons (.v 2) (.cons (.v 4) .nil))) .nil))) .nil)))) .nil)⟩
def m_Look_init : Def := ⟨4, 9, (.cons (.selfI 1) (.cons (.fld 0 1 0 (.e (.v 3))) (.cons (.fld 0 1 1 (.e (.call 46 (.cons (.v 3) .nil)))) (.cons (.fld 0 1 2 (.e (.lst (.cons (.call 61 (.cons (.v 1) (.cons (.att 0 1 1) .nil))) (.cons (.call 61 (.cons (.v 2) (.cons (.att 0 1 1) .nil))) .nil))))) (.cons (.fld 0 1 3 (.e (.lc [5] (.lc [6] (.call 51 (.cons (.call 39 (.cons (.v 5) (.cons (.v 6) .nil))) (.cons (.v 3) .nil))) (.one 6) (.rng1 (.k (.int 2))) .no) (.one 5) (.seq (.tup (.cons (.v 1) (.cons (.v 2) .nil)))) .no))) (.cons (.fld 0 1 4 (.e (.lc [7, 8] (.call 28 (.cons (.v 7) (.cons (.call 99 (.cons (.v 8) .nil)) .nil))) (.many [7, 8]) (.zip (.v 3) (.att 0 1 1)) .no))) (.cons (.asg 4 [] (.bin .add (.bin .add (.bin .add (.lst (.cons (.call 51 (.cons (.v 1) (.cons (.v 3) .nil))) (.cons (.call 51 (.cons (.v 2) (.cons (.v 3) .nil))) .nil))) (.att 0 1 2)) (.ix (.att 0 1 3) (.k (.int 0)))) (.ix (.att 0 1 3) (.k (.int 1))))) (.cons (.fld 0 1 5 (.e (.cmp .nin (.k .none) (.v 4)))) (.cons (.retM (.e (.k .none))) .nil)))))))))⟩
def m_Look_place : Def := ⟨4, 9, (.cons (.self 1) (.cons (.asgL 4 [] (.lst (.cons (.g 0) (.cons (.g 0) .nil)))) (.cons (.setX 4 [] (.v 1) (.g 1)) (.cons (.asg 5 [] (.call 17 (.cons (.call 19 (.cons (.v 2) (.cons (.ix (.att 0 1 2) (.k (.int 0))) .nil))) (.cons (.call 19 (.cons (.v 3) (.cons (.ix (.att 0 1 2) (.k (.int 1))) .nil))) .nil)))) (.cons (.asg 6 [] (.call 99 (.cons (.call 18 (.cons (.ix (.att 0 1 1) (.v 1)) (.cons (.v 5) .nil))) .nil))) (.cons (.for_ [] (.one 7) (.rng1 (.k (.int 2))) (.cons (.asg 8 [4] (.call 101 (.cons (.ix (.v 4) (.v 7)) (.cons (.v 2) (.cons (.v 3) (.cons (.ix (.ix (.att 0 1 3) (.k (.int 0))) (.v 7)) (.cons (.ix (.ix (.att 0 1 3) (.k (.int 1))) (.v 7)) .nil))))))) (.cons (.asg 6 [] (.call 27 (.cons (.v 6) (.cons (.call 29 (.cons (.v 8) (.cons (.ix (.att 0 1 4) (.v 7)) .nil))) .nil)))) .nil))) (.cons (.retM (.e (.v 6))) .nil)))))))⟩
def m_Look_lies_within : Def := ⟨4, 6, (.cons (.self 1) (.cons (.asgM 4 (.mc 0 1 107 (.cons (.e (.v 1)) (.cons (.e (.v 2)) (.cons (.e (.v 3)) .nil))))) (.cons (.asg 5 [] (.ix (.att 0 1 0) (.v 1))) (.cons (.retM (.e (.and (.cons (.cmp .lt (.call 22 (.cons (.ix (.v 5) (.k (.int 0))) (.cons (.ix (.v 4) (.k (.int 0))) .nil))) (.k (.int 0))) (.cons (.cmp .lt (.call 22 (.cons (.ix (.v 4) (.k (.int 1))) (.cons (.ix (.v 5) (.k (.int 1))) .nil))) (.k (.int 0))) .nil))))) .nil))))⟩
def m_Look_is_one : Def := ⟨2, 2, (.cons (.self 1) (.cons (.iff [] (.not (.att 0 1 5)) (.cons (.retM (.e (.k (.bool false)))) .nil) .nil) (.cons (.retM (.and (.mc 0 1 108 (.cons (.e (.k (.int 0))) (.cons (.e (.ix (.v 1) (.k (.int 0)))) (.cons (.e (.ix (.v 1) (.k (.int 1)))) .nil)))) (.mc 0 1 108 (.cons (.e (.k (.int 1))) (.cons (.e (.ix (.v 1) (.k (.int 2)))) (.cons (.e (.ix (.v 1) (.k (.int 3)))) .nil)))))) .nil)))⟩
def d_matrix_of : Def := ⟨3, 6, (.cons (.asg 3 [] (.lc [5] (.call 61 (.cons (.call 39 (.cons (.v 0) (.cons (.v 5) .nil))) (.cons (.v 2) .nil))) (.one 5) (.rng1 (.k (.int 2))) .no)) (.cons (.asg 3 [] (.bin .add (.v 3) (.lc [5] (.call 61 (.cons (.call 39 (.cons (.v 1) (.cons (.v 5) .nil))) (.cons (.v 2) .nil))) (.one 5) (.rng1 (.k (.int 2))) .no))) (.cons (.iff [] (.cmp .isin (.k .none) (.v 3)) (.cons (.ret [] (.k .none)) .nil) .nil) (.cons (.asg 4 [] (.call 18 (.cons (.call 19 (.cons (.ix (.v 3) (.k (.int 0))) (.cons (.ix (.v 3) (.k (.int 3))) .nil))) (.cons (.call 19 (.cons (.ix (.v 3) (.k (.int 1))) (.cons (.ix (.v 3) (.k (.int 2))) .nil))) .nil)))) (.cons (.iff [] (.cmp .eq (.v 4) (.g 0)) (.cons (.ret [] (.k .none)) .nil) .nil) (.cons (.ret [] (.tup (.cons (.call 20 (.cons (.ix (.v 3) (.k (.int 3))) (.cons (.v 4) .nil))) (.cons (.call 20 (.cons (.call 14 (.cons (.ix (.v 3) (.k (.int 1))) .nil)) (.cons (.v 4) .nil))) (.cons (.call 20 (.cons (.call 14 (.cons (.ix (.v 3) (.k (.int 2))) .nil)) (.cons (.v 4) .nil))) (.cons (.call 20 (.cons (.ix (.v 3) (.k (.int 0))) (.cons (.v 4) .nil))) .nil)))))) .nil))))))⟩
def d_net_of : Def := ⟨4, 12, (.cons (.for_ [] (.many [7, 8]) (.enum (.tup (.cons (.v 0) (.cons (.v 1) .nil)))) (.cons (.asg 9 [] (.call 62 (.cons (.tup (.cons (.k (.str "apart")) (.cons (.v 8) (.cons (.g 0) .nil)))) (.cons (.v 2) .nil)))) (.cons (.iff [] (.cmp .isn (.v 9) (.k .none)) (.cons (.ret [] (.tup (.cons (.k (.str "none")) (.cons (.v 7) (.cons (.v 9) .nil))))) .nil) .nil) .nil))) (.cons (.asg 4 [] (.call 113 (.cons (.v 0) (.cons (.v 1) (.cons (.call 46 (.cons (.v 2) .nil)) .nil))))) (.cons (.iffM (.and (.e (.cmp .isn (.v 4) (.k .none))) (.mk 1 102 (.cons (.v 0) (.cons (.v 1) (.cons (.v 2) .nil))) 109 (.cons (.v 4) .nil))) (.cons (.ret [] (.tup (.cons (.k (.str "one")) (.cons (.v 4) .nil)))) .nil) .nil) (.cons (.iff [] (.cmp .eq (.v 3) (.k (.int 0))) (.cons (.ret [] (.tup (.cons (.k (.str "open")) .nil))) .nil) .nil) (.cons (.asg 5 [] (.call 48 (.cons (.v 2) .nil))) (.cons (.asg 6 [] (.ix (.call 46 (.cons (.v 2) .nil)) (.v 5))) (.cons (.asgT [10, 11] [] (.call 45 (.cons (.v 2) (.cons (.v 5) (.cons (.v 6) .nil))))) (.cons (.ret [] (.tup (.cons (.k (.str "split")) (.cons (.v 5) (.cons (.v 6) (.cons (.call 114 (.cons (.v 0) (.cons (.v 1) (.cons (.v 10) (.cons (.bin .sub (.v 3) (.k (.int 1))) .nil))))) (.cons (.call 114 (.cons (.v 0) (.cons (.v 1) (.cons (.v 11) (.cons (.bin .sub (.v 3) (.k (.int 1))) .nil))))) .nil))))))) .nil))))))))⟩
def d_both : Def := ⟨4, 5, (.cons (.for_ [] (.one 4) (.seq (.tup (.cons (.v 0) (.cons (.v 1) .nil)))) (.cons (.expr [] (.call 75 (.cons (.v 4) .nil))) (.cons (.iff [] (.cmp .gt (.call 76 (.cons (.v 4) .nil)) (.k (.int 2))) (.cons (.rais "BadTerm") .nil) .nil) .nil))) (.cons (.ret [] (.call 114 (.cons (.v 0) (.cons (.v 1) (.cons (.v 2) (.cons (.v 3) .nil)))))) .nil))⟩
def d_shared : Def := ⟨2, 4, (.cons (.iff [] (.cmp .eq (.ix (.v 1) (.k (.int 0))) (.k (.str "none"))) (.cons (.ret [] (.lst .nil)) .nil) .nil) (.cons (.iff [] (.cmp .ne (.ix (.v 1) (.k (.int 0))) (.k (.str "split"))) (.cons (.ret [] (.lst (.cons (.tup (.cons (.ix (.v 1) (.k (.int 0))) (.cons (.v 0) .nil))) .nil))) .nil) .nil) (.cons (.asgT [2, 3] [] (.call 45 (.cons (.v 0) (.cons (.ix (.v 1) (.k (.int 1))) (.cons (.ix (.v 1) (.k (.int 2))) .nil))))) (.cons (.ret [] (.bin .add (.call 116 (.cons (.v 2) (.cons (.ix (.v 1) (.k (.int 3))) .nil))) (.call 116 (.cons (.v 3) (.cons (.ix (.v 1) (.k (.int 4))) .nil))))) .nil))))⟩
def m_Reader_init : Def := ⟨2, 2, (.cons (.selfI 2) (.cons (.fld 0 2 0 (.e (.v 1))) (.cons (.fld 0 2 1 (.e (.k (.int 0)))) (.cons (.fld 0 2 2 (.e (.k (.int 0)))) (.cons (.retM (.e (.k .none))) .nil)))))⟩
def m_Reader_need : Def := ⟨2, 2, (.cons (.self 2) (.cons (.iff [] (.not (.v 1)) (.cons (.rais "BadText") .nil) .nil) (.cons (.retM (.e (.k .none))) .nil)))⟩
def m_Reader_sign : Def := ⟨1, 1, (.cons (.self 2) (.cons (.whl [] (.cmp .eq (.sl (.att 0 2 0) (.yes (.att 0 2 1)) (.yes (.bin .add (.att 0 2 1) (.k (.int 1))))) (.k (.str " "))) (.cons (.fld 0 2 1 (.e (.bin .add (.att 0 2 1) (.k (.int 1))))) .nil)) (.cons (.retM (.e (.sl (.att 0 2 0) (.yes (.att 0 2 1)) (.yes (.bin .add (.att 0 2 1) (.k (.int 1))))))) .nil)))⟩
def m_Reader_takes : Def := ⟨2, 2, (.cons (.self 2) (.cons (.iffM (.cmp .ne (.mc 0 2 119 .nil) (.v 1)) (.cons (.retM (.e (.k (.bool false)))) .nil) .nil) (.cons (.fld 0 2 1 (.e (.bin .add (.att 0 2 1) (.k (.int 1))))) (.cons (.retM (.e (.k (.bool true)))) .nil))))⟩
def m_Reader_figures : Def := ⟨1, 2, (.cons (.self 2) (.cons (.asg 1 [] (.att 0 2 1)) (.cons (.whl [] (.and (.cons (.cmp .lt (.att 0 2 1) (.bf .len (.cons (.att 0 2 0) .nil))) (.cons (.cmp .isin (.ix (.att 0 2 0) (.att 0 2 1)) (.g 14)) .nil))) (.cons (.fld 0 2 1 (.e (.bin .add (.att 0 2 1) (.k (.int 1))))) .nil)) (.cons (.exprM (.mc 0 2 118 (.cons (.e (.cmp2 .le .le (.k (.int 1)) (.bin .sub (.att 0 2 1) (.v 1)) (.g 15))) .nil))) (.cons (.retM (.e (.bf .int (.cons (.sl (.att 0 2 0) (.yes (.v 1)) (.yes (.att 0 2 1))) .nil)))) .nil)))))⟩
def m_Reader_number : Def := ⟨1, 3, (.cons (.self 2) (.cons (.asgM 1 (.mc 0 2 121 .nil)) (.cons (.asg 2 [] (.k (.int 1))) (.cons (.iff [] (.cmp .eq (.sl (.att 0 2 0) (.yes (.att 0 2 1)) (.yes (.bin .add (.att 0 2 1) (.k (.int 1))))) (.k (.str "/"))) (.cons (.fld 0 2 1 (.e (.bin .add (.att 0 2 1) (.k (.int 1))))) (.cons (.asgM 2 (.mc 0 2 121 .nil)) (.cons (.exprM (.mc 0 2 118 (.cons (.e (.cmp .ne (.v 2) (.k (.int 0)))) .nil))) .nil))) .nil) (.cons (.retM (.e (.tup (.cons (.k (.str "num")) (.cons (.call 11 (.cons (.v 1) (.cons (.v 2) .nil))) .nil))))) .nil)))))⟩
def m_Reader_part : Def := ⟨1, 3, (.cons (.self 2) (.cons (.asgM 1 (.mc 0 2 119 .nil)) (.cons (.exprM (.mc 0 2 118 (.cons (.e (.cmp .ne (.v 1) (.k (.str "")))) .nil))) (.cons (.iff [] (.cmp .isin (.v 1) (.g 14)) (.cons (.retM (.mc 0 2 122 .nil)) .nil) .nil) (.cons (.iff [] (.cmp .isin (.v 1) (.g 13)) (.cons (.fld 0 2 1 (.e (.bin .add (.att 0 2 1) (.k (.int 1))))) (.cons (.retM (.e (.tup (.cons (.k (.str "var")) (.cons (.tx2 .idx (.g 13) (.v 1)) .nil))))) .nil)) .nil) (.cons (.exprM (.mc 0 2 118 (.cons (.mc 0 2 120 (.cons (.e (.k (.str "("))) .nil)) .nil))) (.cons (.fld 0 2 2 (.e (.bin .add (.att 0 2 2) (.k (.int 1))))) (.cons (.exprM (.mc 0 2 118 (.cons (.e (.cmp .le (.att 0 2 2) (.g 17))) .nil))) (.cons (.asgM 2 (.mc 0 2 123 .nil)) (.cons (.exprM (.mc 0 2 118 (.cons (.mc 0 2 120 (.cons (.e (.k (.str ")"))) .nil)) .nil))) (.cons (.fld 0 2 2 (.e (.bin .sub (.att 0 2 2) (.k (.int 1))))) (.cons (.retM (.e (.v 2))) .nil))))))))))))⟩
def m_Reader_raised : Def := ⟨1, 3, (.cons (.self 2) (.cons (.asgM 1 (.mc 0 2 124 .nil)) (.cons (.iffM (.mc 0 2 120 (.cons (.e (.k (.str "^"))) .nil)) (.cons (.asgM 2 (.mc 0 2 119 .nil)) (.cons (.exprM (.mc 0 2 118 (.cons (.e (.and (.cons (.cmp .ne (.v 2) (.k (.str ""))) (.cons (.cmp .isin (.v 2) (.sl (.g 14) .no (.yes (.bin .add (.g 10) (.k (.int 1)))))) .nil)))) .nil))) (.cons (.fld 0 2 1 (.e (.bin .add (.att 0 2 1) (.k (.int 1))))) (.cons (.retM (.e (.tup (.cons (.k (.str "power")) (.cons (.v 1) (.cons (.bf .int (.cons (.v 2) .nil)) .nil)))))) .nil)))) .nil) (.cons (.retM (.e (.v 1))) .nil))))⟩
def m_Reader_product : Def := ⟨1, 3, (.cons (.self 2) (.cons (.asgM 1 (.mc 0 2 125 .nil)) (.cons (.whlM (.ind (.mc 0 2 119 .nil) 2) (.cons (.asgM 2 (.mc 0 2 119 .nil)) (.cons (.fld 0 2 1 (.e (.bin .add (.att 0 2 1) (.k (.int 1))))) (.cons (.asgM 1 (.tup (.cons (.e (.dg 2 (.v 2))) (.cons (.e (.v 1)) (.cons (.mc 0 2 125 .nil) .nil))))) .nil)))) (.cons (.retM (.e (.v 1))) .nil))))⟩
def m_Reader_whole : Def := ⟨1, 4, (.cons (.self 2) (.cons (.asgM 1 (.mc 0 2 120 (.cons (.e (.k (.str "-"))) .nil))) (.cons (.asgM 2 (.mc 0 2 126 .nil)) (.cons (.iff [] (.v 1) (.cons (.iff [] (.cmp .eq (.ix (.v 2) (.k (.int 0))) (.k (.str "num"))) (.cons (.asg 2 [] (.tup (.cons (.k (.str "num")) (.cons (.call 14 (.cons (.ix (.v 2) (.k (.int 1))) .nil)) .nil)))) .nil) (.cons (.asg 2 [] (.tup (.cons (.k (.str "less")) (.cons (.tup (.cons (.k (.str "num")) (.cons (.g 0) .nil))) (.cons (.v 2) .nil))))) .nil)) .nil) .nil) (.cons (.whlM (.ind (.mc 0 2 119 .nil) 1) (.cons (.asgM 3 (.mc 0 2 119 .nil)) (.cons (.fld 0 2 1 (.e (.bin .add (.att 0 2 1) (.k (.int 1))))) (.cons (.asgM 2 (.tup (.cons (.e (.dg 1 (.v 3))) (.cons (.e (.v 2)) (.cons (.mc 0 2 126 .nil) .nil))))) .nil)))) (.cons (.retM (.e (.v 2))) .nil))))))⟩
def d_term_of : Def := ⟨1, 3, (.cons (.new 1 2 117 (.cons (.e (.v 0)) .nil)) (.cons (.exprM (.mc 1 2 118 (.cons (.e (.cmp .le (.bf .len (.cons (.v 0) .nil)) (.g 16))) .nil))) (.cons (.asgM 2 (.mc 1 2 123 .nil)) (.cons (.exprM (.mc 1 2 118 (.cons (.cmp .eq (.mc 1 2 119 .nil) (.k (.str ""))) .nil))) (.cons (.expr [] (.call 75 (.cons (.v 2) .nil))) (.cons (.ret [] (.v 2)) .nil))))))⟩
def d_lesser : Def := ⟨2, 2, (.cons (.iff [] (.or (.cons (.cmp .is (.v 0) (.k .none)) (.cons (.cmp .is (.v 1) (.k .none)) .nil))) (.cons (.ret [] (.ife (.cmp .is (.v 0) (.k .none)) (.v 1) (.v 0))) .nil) .nil) (.cons (.ret [] (.ife (.cmp .le (.call 22 (.cons (.v 0) (.cons (.v 1) .nil))) (.k (.int 0))) (.v 0) (.v 1))) .nil))⟩
def d_bound : Def := ⟨2, 4, (.cons (.asg 2 [] (.lc [3] (.ife (.cmp .is (.v 3) (.k .none)) (.k .none) (.ix (.v 3) (.k (.int 1)))) (.one 3) (.seq (.tup (.cons (.call 51 (.cons (.v 0) (.cons (.v 1) .nil))) (.cons (.call 52 (.cons (.v 0) (.cons (.v 1) (.cons (.call 46 (.cons (.v 1) .nil)) .nil)))) .nil)))) .no)) (.cons (.ret [] (.call 88 (.cons (.ix (.v 2) (.k (.int 0))) (.cons (.ix (.v 2) (.k (.int 1))) .nil)))) .nil))⟩
def m_Hunt_init : Def := ⟨2, 2, (.cons (.selfI 0) (.cons (.fld 0 0 0 (.e (.v 1))) (.cons (.fld 0 0 1 (.e (.k .none))) (.cons (.fld 0 0 2 (.e (.k .none))) (.cons (.fld 0 0 3 (.e (.k .none))) (.cons (.fld 0 0 4 (.e (.k (.bool false)))) (.cons (.retM (.e (.k .none))) .nil)))))))⟩
def m_Hunt_look_at : Def := ⟨2, 4, (.cons (.self 0) (.cons (.for_ [] (.one 2) (.seq (.bin .add (.lst (.cons (.call 46 (.cons (.v 1) .nil)) .nil)) (.call 47 (.cons (.v 1) .nil)))) (.cons (.asg 3 [] (.call 61 (.cons (.att 0 0 0) (.cons (.v 2) .nil)))) (.cons (.iff [] (.and (.cons (.cmp .isn (.v 3) (.k .none)) (.cons (.or (.cons (.cmp .is (.att 0 0 2) (.k .none)) (.cons (.cmp .gt (.call 22 (.cons (.v 3) (.cons (.att 0 0 2) .nil))) (.k (.int 0))) .nil))) .nil))) (.cons (.fld 0 0 1 (.e (.v 2))) (.cons (.fld 0 0 2 (.e (.v 3))) .nil)) .nil) .nil))) (.cons (.retM (.e (.k .none))) .nil)))⟩
def m_Hunt_is_out : Def := ⟨2, 2, (.cons (.self 0) (.cons (.retM (.e (.and (.cons (.cmp .isn (.v 1) (.k .none)) (.cons (.cmp .isn (.att 0 0 2) (.k .none)) (.cons (.cmp .lt (.call 22 (.cons (.v 1) (.cons (.att 0 0 2) .nil))) (.k (.int 0))) .nil)))))) .nil))⟩
def m_Hunt_search : Def := ⟨3, 10, (.cons (.self 0) (.cons (.asg 3 [] (.lst (.cons (.tup (.cons (.v 1) (.cons (.call 89 (.cons (.att 0 0 0) (.cons (.v 1) .nil))) .nil))) .nil))) (.cons (.exprM (.mc 0 0 94 (.cons (.e (.v 1)) .nil))) (.cons (.for_ [] (.one 4) (.rng1 (.v 2)) (.cons (.asgL 5 [] (.lst .nil)) (.cons (.for_ [] (.many [6, 7]) (.seq (.v 3)) (.cons (.iffM (.not (.mc 0 0 95 (.cons (.e (.v 7)) .nil))) (.cons (.asg 8 [] (.call 48 (.cons (.v 6) .nil))) (.cons (.for_ [] (.one 9) (.seq (.call 45 (.cons (.v 6) (.cons (.v 8) (.cons (.ix (.call 46 (.cons (.v 6) .nil)) (.v 8)) .nil))))) (.cons (.app 5 [] (.tup (.cons (.v 9) (.cons (.call 88 (.cons (.v 7) (.cons (.call 89 (.cons (.att 0 0 0) (.cons (.v 9) .nil))) .nil))) .nil)))) (.cons (.exprM (.mc 0 0 94 (.cons (.e (.v 9)) .nil))) .nil))) .nil)) .nil) .nil)) (.cons (.asg 3 [5] (.v 5)) .nil)))) (.cons (.retM (.e (.k .none))) .nil)))))⟩
def m_Hunt_laid : Def := ⟨4, 8, (.cons (.self 0) (.cons (.asg 2 [] (.call 88 (.cons (.v 2) (.cons (.call 89 (.cons (.att 0 0 0) (.cons (.v 1) .nil))) .nil)))) (.cons (.iffM (.mc 0 0 95 (.cons (.e (.v 2)) .nil)) (.cons (.retM (.e (.tup (.cons (.k (.str "out")) .nil)))) .nil) .nil) (.cons (.iff [] (.cmp .eq (.v 3) (.k (.int 0))) (.cons (.fld 0 0 4 (.e (.or (.cons (.att 0 0 4) (.cons (.cmp .is (.v 2) (.k .none)) .nil))))) (.cons (.iff [] (.and (.cons (.cmp .isn (.v 2) (.k .none)) (.cons (.or (.cons (.cmp .is (.att 0 0 3) (.k .none)) (.cons (.cmp .gt (.call 22 (.cons (.v 2) (.cons (.att 0 0 3) .nil))) (.k (.int 0))) .nil))) .nil))) (.cons (.fld 0 0 3 (.e (.v 2))) .nil) .nil) (.cons (.retM (.e (.tup (.cons (.k (.str "kept")) .nil)))) .nil))) .nil) (.cons (.asg 4 [] (.call 48 (.cons (.v 1) .nil))) (.cons (.asg 5 [] (.ix (.call 46 (.cons (.v 1) .nil)) (.v 4))) (.cons (.asgT [6, 7] [] (.call 45 (.cons (.v 1) (.cons (.v 4) (.cons (.v 5) .nil))))) (.cons (.retM (.tup (.cons (.e (.k (.str "split"))) (.cons (.e (.v 4)) (.cons (.e (.v 5)) (.cons (.mc 0 0 97 (.cons (.e (.v 6)) (.cons (.e (.v 2)) (.cons (.e (.bin .sub (.v 3) (.k (.int 1)))) .nil)))) (.cons (.mc 0 0 97 (.cons (.e (.v 7)) (.cons (.e (.v 2)) (.cons (.e (.bin .sub (.v 3) (.k (.int 1)))) .nil)))) .nil))))))) .nil))))))))⟩
def d_highest : Def := ⟨3, 5, (.cons (.new 3 0 93 (.cons (.e (.v 0)) .nil)) (.cons (.exprM (.mc 3 0 96 (.cons (.e (.v 1)) (.cons (.e (.v 2)) .nil)))) (.cons (.asgM 4 (.mc 3 0 97 (.cons (.e (.v 1)) (.cons (.e (.k .none)) (.cons (.e (.v 2)) .nil))))) (.cons (.iff [] (.or (.cons (.att 3 0 4) (.cons (.cmp .is (.att 3 0 2) (.k .none)) .nil))) (.cons (.ret [] (.k .none)) .nil) .nil) (.cons (.ret [] (.tup (.cons (.att 3 0 1) (.cons (.att 3 0 3) (.cons (.v 4) .nil))))) .nil)))))⟩
def d_need : Def := ⟨1, 1, (.cons (.iff [] (.not (.v 0)) (.cons (.rais "BadText") .nil) .nil) .nil)⟩
def d_number_text : Def := ⟨1, 1, (.cons (.iff [] (.cmp .eq (.ix (.v 0) (.k (.int 1))) (.k (.int 1))) (.cons (.ret [] (.tx1 .str (.ix (.v 0) (.k (.int 0))))) .nil) .nil) (.cons (.ret [] (.bin .add (.bin .add (.tx1 .str (.ix (.v 0) (.k (.int 0)))) (.k (.str "/"))) (.tx1 .str (.ix (.v 0) (.k (.int 1)))))) .nil))⟩
def d_figures_of : Def := ⟨1, 2, (.cons (.expr [] (.call 106 (.cons (.and (.cons (.cmp .ne (.v 0) (.k (.str ""))) (.cons (.bf .all (.cons (.lc [1] (.cmp .isin (.v 1) (.g 14)) (.one 1) (.seq (.v 0)) .no) .nil)) (.cons (.or (.cons (.cmp .eq (.v 0) (.k (.str "0"))) (.cons (.cmp .ne (.ix (.v 0) (.k (.int 0))) (.k (.str "0"))) .nil))) .nil)))) .nil))) (.cons (.ret [] (.bf .int (.cons (.v 0) .nil))) .nil))⟩
def d_number_of : Def := ⟨1, 7, (.cons (.asgT [4, 5, 6] [] (.tx2 .part (.v 0) (.k (.str "/")))) (.cons (.asg 1 [] (.ife (.cmp .eq (.sl (.v 4) .no (.yes (.k (.int 1)))) (.k (.str "-"))) (.sl (.v 4) (.yes (.k (.int 1))) .no) (.v 4))) (.cons (.asg 2 [] (.call 129 (.cons (.v 1) .nil))) (.cons (.expr [] (.call 106 (.cons (.or (.cons (.cmp .eq (.v 1) (.v 4)) (.cons (.cmp .gt (.v 2) (.k (.int 0))) .nil))) .nil))) (.cons (.iff [] (.cmp .ne (.v 1) (.v 4)) (.cons (.asg 2 [] (.bin .sub (.k (.int 0)) (.v 2))) .nil) .nil) (.cons (.iff [] (.cmp .eq (.v 5) (.k (.str ""))) (.cons (.ret [] (.tup (.cons (.v 2) (.cons (.k (.int 1)) .nil)))) .nil) .nil) (.cons (.asg 3 [] (.tup (.cons (.v 2) (.cons (.call 129 (.cons (.v 6) .nil)) .nil)))) (.cons (.expr [] (.call 106 (.cons (.and (.cons (.cmp .gt (.ix (.v 3) (.k (.int 1))) (.k (.int 1))) (.cons (.cmp .eq (.call 10 (.cons (.ix (.v 3) (.k (.int 0))) (.cons (.ix (.v 3) (.k (.int 1))) .nil))) (.k (.int 1))) .nil))) .nil))) (.cons (.ret [] (.v 3)) .nil)))))))))⟩
def d_words_of : Def := ⟨1, 2, (.cons (.iff [] (.or (.cons (.cmp .eq (.ix (.v 0) (.k (.int 0))) (.k (.str "slope"))) (.cons (.cmp .eq (.ix (.v 0) (.k (.int 0))) (.k (.str "one"))) .nil))) (.cons (.ret [] (.bin .add (.lst (.cons (.ix (.v 0) (.k (.int 0))) .nil)) (.lc [1] (.call 128 (.cons (.v 1) .nil)) (.one 1) (.seq (.ix (.v 0) (.k (.int 1)))) .no))) .nil) .nil) (.cons (.iff [] (.cmp .eq (.ix (.v 0) (.k (.int 0))) (.k (.str "none"))) (.cons (.ret [] (.bin .add (.lst (.cons (.k (.str "none")) (.cons (.tx1 .str (.ix (.v 0) (.k (.int 1)))) .nil))) (.call 131 (.cons (.ix (.v 0) (.k (.int 2))) .nil)))) .nil) .nil) (.cons (.iff [] (.cmp .eq (.ix (.v 0) (.k (.int 0))) (.k (.str "split"))) (.cons (.ret [] (.bin .add (.bin .add (.lst (.cons (.k (.str "cut")) (.cons (.tx1 .str (.ix (.v 0) (.k (.int 1)))) (.cons (.call 128 (.cons (.ix (.v 0) (.k (.int 2))) .nil)) .nil)))) (.call 131 (.cons (.ix (.v 0) (.k (.int 3))) .nil))) (.call 131 (.cons (.ix (.v 0) (.k (.int 4))) .nil)))) .nil) .nil) (.cons (.ret [] (.lst (.cons (.ix (.v 0) (.k (.int 0))) .nil))) .nil))))⟩
def d_text_of : Def := ⟨1, 1, (.cons (.ret [] (.tx2 .join (.k (.str " ")) (.call 131 (.cons (.v 0) .nil)))) .nil)⟩
def m_Words_init : Def := ⟨3, 3, (.cons (.selfI 3) (.cons (.fld 0 3 0 (.e (.tx2 .split (.v 1) (.k (.str " "))))) (.cons (.fld 0 3 1 (.e (.k (.int 0)))) (.cons (.fld 0 3 2 (.e (.v 2))) (.cons (.retM (.e (.k .none))) .nil)))))⟩
def m_Words_following : Def := ⟨1, 1, (.cons (.self 3) (.cons (.expr [] (.call 106 (.cons (.cmp .lt (.att 0 3 1) (.bf .len (.cons (.att 0 3 0) .nil))) .nil))) (.cons (.fld 0 3 1 (.e (.bin .add (.att 0 3 1) (.k (.int 1))))) (.cons (.retM (.e (.ix (.att 0 3 0) (.bin .sub (.att 0 3 1) (.k (.int 1)))))) .nil))))⟩
def m_Words_several : Def := ⟨2, 3, (.cons (.self 3) (.cons (.retM (.bf .tuple (.cons (.lcm 2 (.call 130 (.cons (.mc 0 3 134 .nil) .nil)) (.rng1 (.v 1))) .nil))) .nil))⟩
def m_Words_one_thing : Def := ⟨2, 8, (.cons (.self 3) (.cons (.expr [] (.call 106 (.cons (.cmp .le (.v 1) (.g 12)) .nil))) (.cons (.asgM 2 (.mc 0 3 134 .nil)) (.cons (.iff [] (.cmp .isin (.v 2) (.g 18)) (.cons (.retM (.e (.tup (.cons (.v 2) .nil)))) .nil) .nil) (.cons (.iff [] (.cmp .eq (.v 2) (.k (.str "slope"))) (.cons (.retM (.tup (.cons (.e (.v 2)) (.cons (.mc 0 3 135 (.cons (.e (.att 0 3 2)) .nil)) .nil)))) .nil) .nil) (.cons (.iff [] (.cmp .eq (.v 2) (.k (.str "one"))) (.cons (.retM (.tup (.cons (.e (.v 2)) (.cons (.mc 0 3 135 (.cons (.e (.k (.int 4))) .nil)) .nil)))) .nil) .nil) (.cons (.iff [] (.cmp .eq (.v 2) (.k (.str "none"))) (.cons (.asgM 7 (.mc 0 3 134 .nil)) (.cons (.expr [] (.call 106 (.cons (.cmp .isin (.v 7) (.tup (.cons (.k (.str "0")) (.cons (.k (.str "1")) .nil)))) .nil))) (.cons (.retM (.tup (.cons (.e (.v 2)) (.cons (.e (.bf .int (.cons (.v 7) .nil))) (.cons (.mc 0 3 136 (.cons (.e (.bin .add (.v 1) (.k (.int 1)))) .nil)) .nil))))) .nil))) .nil) (.cons (.expr [] (.call 106 (.cons (.cmp .eq (.v 2) (.k (.str "cut"))) .nil))) (.cons (.asgM 3 (.mc 0 3 134 .nil)) (.cons (.expr [] (.call 106 (.cons (.cmp .lt (.bf .len (.cons (.v 3) .nil)) (.k (.int 3))) .nil))) (.cons (.asg 4 [] (.call 129 (.cons (.v 3) .nil))) (.cons (.asgM 5 (.call 130 (.cons (.mc 0 3 134 .nil) .nil))) (.cons (.asgM 6 (.mc 0 3 136 (.cons (.e (.bin .add (.v 1) (.k (.int 1)))) .nil))) (.cons (.retM (.tup (.cons (.e (.k (.str "split"))) (.cons (.e (.v 4)) (.cons (.e (.v 5)) (.cons (.e (.v 6)) (.cons (.mc 0 3 136 (.cons (.e (.bin .add (.v 1) (.k (.int 1)))) .nil)) .nil))))))) .nil))))))))))))))⟩
def d_tree_of : Def := ⟨2, 4, (.cons (.new 2 3 133 (.cons (.e (.v 0)) (.cons (.e (.v 1)) .nil))) (.cons (.asgM 3 (.mc 2 3 136 (.cons (.e (.k (.int 1))) .nil))) (.cons (.expr [] (.call 106 (.cons (.cmp .eq (.att 2 3 1) (.bf .len (.cons (.att 2 3 0) .nil))) .nil))) (.cons (.ret [] (.v 3)) .nil))))⟩
def d_need_word : Def := ⟨2, 2, (.cons (.iff [] (.not (.v 0)) (.cons (.raisW 1) .nil) .nil) .nil)⟩
def d_need_name : Def := ⟨1, 2, (.cons (.expr [] (.call 140 (.cons (.and (.cons (.cmp2 .le .le (.k (.int 1)) (.bf .len (.cons (.v 0) .nil)) (.g 21)) (.cons (.bf .all (.cons (.lc [1] (.cmp .isin (.v 1) (.g 19)) (.one 1) (.seq (.v 0)) .no) .nil)) .nil))) (.cons (.k (.str "row")) .nil)))) .nil)⟩
def d_count_of : Def := ⟨2, 3, (.cons (.expr [] (.call 140 (.cons (.and (.cons (.cmp2 .le .le (.k (.int 1)) (.bf .len (.cons (.v 0) .nil)) (.k (.int 2))) (.cons (.bf .all (.cons (.lc [2] (.cmp .isin (.v 2) (.g 14)) (.one 2) (.seq (.v 0)) .no) .nil)) .nil))) (.cons (.k (.str "row")) .nil)))) (.cons (.expr [] (.call 140 (.cons (.and (.cons (.or (.cons (.cmp .ne (.ix (.v 0) (.k (.int 0))) (.k (.str "0"))) (.cons (.cmp .eq (.v 0) (.k (.str "0"))) .nil))) (.cons (.cmp .le (.bf .int (.cons (.v 0) .nil)) (.v 1)) .nil))) (.cons (.k (.str "row")) .nil)))) (.cons (.ret [] (.bf .int (.cons (.v 0) .nil))) .nil)))⟩
def d_fraction_by : Def := ⟨1, 2, (.cons (.asg 1 [] (.k .none)) (.cons (.tryN (.cons (.asg 1 [] (.call 130 (.cons (.v 0) .nil))) .nil) "BadText" 1 .none) (.cons (.expr [] (.call 140 (.cons (.cmp .isn (.v 1) (.k .none)) (.cons (.k (.str "row")) .nil)))) (.cons (.ret [] (.v 1)) .nil))))⟩
def d_numbers_by : Def := ⟨1, 2, (.cons (.ret [] (.lcx [1] (.call 143 (.cons (.v 1) .nil)) (.one 1) (.seq (.v 0)))) .nil)⟩
def d_numbers_text : Def := ⟨1, 2, (.cons (.ret [] (.tx2 .join (.k (.str " ")) (.lc [1] (.call 128 (.cons (.v 1) .nil)) (.one 1) (.seq (.v 0)) .no))) .nil)⟩
def d_box_text : Def := ⟨1, 2, (.cons (.ret [] (.tx2 .join (.k (.str " ")) (.lc [1] (.call 145 (.cons (.v 1) .nil)) (.one 1) (.seq (.v 0)) .no))) .nil)⟩
def d_place_text : Def := ⟨1, 1, (.cons (.ret [] (.bin .add (.bin .add (.ix (.v 0) (.k (.int 0))) (.k (.str " "))) (.call 145 (.cons (.sl (.v 0) (.yes (.k (.int 1))) .no) .nil)))) .nil)⟩
def d_all_text : Def := ⟨1, 1, (.cons (.ret [] (.ife (.cmp .ne (.v 0) (.lst .nil)) (.tx2 .join (.k (.str "; ")) (.v 0)) (.k (.str "none")))) .nil)⟩
def d_is_paper : Def := ⟨1, 1, (.cons (.iff [] (.cmp .eq (.ix (.v 0) (.k (.int 0))) (.k (.str "split"))) (.cons (.ret [] (.and (.cons (.call 149 (.cons (.ix (.v 0) (.k (.int 3))) .nil)) (.cons (.call 149 (.cons (.ix (.v 0) (.k (.int 4))) .nil)) .nil)))) .nil) .nil) (.cons (.ret [] (.cmp .isin (.ix (.v 0) (.k (.int 0))) (.tup (.cons (.k (.str "cover")) (.cons (.k (.str "slope")) .nil))))) .nil))⟩
def d_settled_text : Def := ⟨1, 4, (.cons (.asgT [1, 2] [] (.v 0)) (.cons (.iff [] (.cmp .eq (.v 1) (.k (.str "yes"))) (.cons (.ret [] (.bin .add (.k (.str "yes ")) (.call 132 (.cons (.v 2) .nil)))) .nil) .nil) (.cons (.iff [] (.cmp .eq (.v 1) (.k (.str "open"))) (.cons (.ret [] (.bin .add (.k (.str "open ")) (.call 146 (.cons (.v 2) .nil)))) .nil) .nil) (.cons (.ret [] (.bin .add (.k (.str "no ")) (.tx2 .join (.k (.str " and ")) (.lc [3] (.call 145 (.cons (.v 3) .nil)) (.one 3) (.seq (.v 2)) .no)))) .nil))))⟩
def m_Desk_init : Def := ⟨1, 1, (.cons (.keep true 4 (.cons (.fldE 0 4 0) (.cons (.fldE 0 4 1) (.cons (.retM (.e (.k .none))) .nil)))) .nil)⟩
def m_Desk_term_by : Def := ⟨2, 2, (.cons (.keep false 4 (.cons (.expr [] (.call 140 (.cons (.din 0 4 0 (.v 1)) (.cons (.k (.str "name")) .nil)))) (.cons (.retM (.e (.dat 0 4 0 (.v 1)))) .nil))) .nil)⟩
def m_Desk_box_by : Def := ⟨2, 2, (.cons (.keep false 4 (.cons (.expr [] (.call 140 (.cons (.din 0 4 1 (.v 1)) (.cons (.k (.str "name")) .nil)))) (.cons (.retM (.e (.dat 0 4 1 (.v 1)))) .nil))) .nil)⟩
def m_Desk_to_term : Def := ⟨2, 2, (.cons (.keep false 4 (.cons (.expr [] (.call 140 (.cons (.cmp .gt (.bf .len (.cons (.v 1) .nil)) (.k (.int 1))) (.cons (.k (.str "row")) .nil)))) (.cons (.expr [] (.call 141 (.cons (.ix (.v 1) (.k (.int 0))) .nil))) (.cons (.fldD 0 4 0 (.ix (.v 1) (.k (.int 0))) (.e (.call 127 (.cons (.tx2 .join (.k (.str " ")) (.sl (.v 1) (.yes (.k (.int 1))) .no)) .nil)))) (.cons (.retM (.e (.k (.str "ok")))) .nil))))) .nil)⟩
def m_Desk_to_box : Def := ⟨2, 7, (.cons (.keep false 4 (.cons (.expr [] (.call 140 (.cons (.and (.cons (.cmp .gt (.bf .len (.cons (.v 1) .nil)) (.k (.int 1))) (.cons (.cmp .eq (.bin .mod (.bf .len (.cons (.v 1) .nil)) (.k (.int 2))) (.k (.int 1))) (.cons (.cmp .le (.bf .len (.cons (.v 1) .nil)) (.bin .add (.bin .mul (.k (.int 2)) (.g 11)) (.k (.int 1)))) .nil)))) (.cons (.k (.str "row")) .nil)))) (.cons (.expr [] (.call 141 (.cons (.ix (.v 1) (.k (.int 0))) .nil))) (.cons (.asg 2 [] (.call 144 (.cons (.sl (.v 1) (.yes (.k (.int 1))) .no) .nil))) (.cons (.asg 3 [] (.bf .tuple (.cons (.lc [4] (.tup (.cons (.ix (.v 2) (.v 4)) (.cons (.ix (.v 2) (.bin .add (.v 4) (.k (.int 1)))) .nil))) (.one 4) (.rng3 (.k (.int 0)) (.bf .len (.cons (.v 2) .nil)) (.k (.int 2))) .no) .nil))) (.cons (.expr [] (.call 140 (.cons (.bf .all (.cons (.lc [5, 6] (.cmp .le (.call 22 (.cons (.v 5) (.cons (.v 6) .nil))) (.k (.int 0))) (.many [5, 6]) (.seq (.v 3)) .no) .nil)) (.cons (.k (.str "box")) .nil)))) (.cons (.fldD 0 4 1 (.ix (.v 1) (.k (.int 0))) (.e (.v 3))) (.cons (.retM (.e (.k (.str "ok")))) .nil)))))))) .nil)⟩
def m_Desk_to_at : Def := ⟨2, 4, (.cons (.keep false 4 (.cons (.expr [] (.call 140 (.cons (.cmp2 .le .le (.k (.int 2)) (.bf .len (.cons (.v 1) .nil)) (.bin .add (.g 11) (.k (.int 1)))) (.cons (.k (.str "row")) .nil)))) (.cons (.expr [] (.call 141 (.cons (.ix (.v 1) (.k (.int 0))) .nil))) (.cons (.asg 2 [] (.call 144 (.cons (.sl (.v 1) (.yes (.k (.int 1))) .no) .nil))) (.cons (.asgM 3 (.mx 0 4 152 (.cons (.e (.ix (.v 1) (.k (.int 0)))) .nil))) (.cons (.expr [] (.call 140 (.cons (.cmp .le (.call 76 (.cons (.v 3) .nil)) (.bf .len (.cons (.v 2) .nil))) (.cons (.k (.str "box")) .nil)))) (.cons (.retM (.e (.call 128 (.cons (.call 33 (.cons (.v 3) (.cons (.bf .tuple (.cons (.v 2) .nil)) .nil))) .nil)))) .nil))))))) .nil)⟩
def m_Desk_claim_by : Def := ⟨2, 5, (.cons (.keep false 4 (.cons (.expr [] (.call 140 (.cons (.cmp .isin (.ix (.v 1) (.k (.int 0))) (.g 20)) (.cons (.k (.str "row")) .nil)))) (.cons (.expr [] (.call 141 (.cons (.ix (.v 1) (.k (.int 1))) .nil))) (.cons (.expr [] (.call 141 (.cons (.ix (.v 1) (.k (.int 3))) .nil))) (.cons (.asg 2 [] (.call 143 (.cons (.ix (.v 1) (.k (.int 2))) .nil))) (.cons (.asgM 3 (.mx 0 4 152 (.cons (.e (.ix (.v 1) (.k (.int 1)))) .nil))) (.cons (.asgM 4 (.mx 0 4 153 (.cons (.e (.ix (.v 1) (.k (.int 3)))) .nil))) (.cons (.expr [] (.call 140 (.cons (.cmp .le (.call 76 (.cons (.v 3) .nil)) (.bf .len (.cons (.v 4) .nil))) (.cons (.k (.str "box")) .nil)))) (.cons (.retM (.e (.tup (.cons (.tup (.cons (.ix (.v 1) (.k (.int 0))) (.cons (.v 3) (.cons (.v 2) .nil)))) (.cons (.v 4) .nil))))) .nil))))))))) .nil)⟩
def m_Desk_to_claim : Def := ⟨2, 5, (.cons (.keep false 4 (.cons (.expr [] (.call 140 (.cons (.cmp .eq (.bf .len (.cons (.v 1) .nil)) (.k (.int 5))) (.cons (.k (.str "row")) .nil)))) (.cons (.asg 2 [] (.call 142 (.cons (.ix (.v 1) (.k (.int 4))) (.cons (.g 15) .nil)))) (.cons (.asgMT [3, 4] (.mx 0 4 157 (.cons (.e (.v 1)) .nil))) (.cons (.retM (.e (.call 150 (.cons (.call 64 (.cons (.v 3) (.cons (.v 4) (.cons (.v 2) .nil)))) .nil)))) .nil))))) .nil)⟩
def m_Desk_to_look : Def := ⟨2, 5, (.cons (.keep false 4 (.cons (.expr [] (.call 140 (.cons (.cmp .gt (.bf .len (.cons (.v 1) .nil)) (.k (.int 4))) (.cons (.k (.str "row")) .nil)))) (.cons (.asgMT [3, 4] (.mx 0 4 157 (.cons (.e (.v 1)) .nil))) (.cons (.asg 2 [] (.k .none)) (.cons (.tryN (.cons (.asg 2 [] (.call 137 (.cons (.tx2 .join (.k (.str " ")) (.sl (.v 1) (.yes (.k (.int 4))) .no)) (.cons (.bf .len (.cons (.v 4) .nil)) .nil)))) .nil) "BadText" 2 .none) (.cons (.expr [] (.call 140 (.cons (.and (.cons (.cmp .isn (.v 2) (.k .none)) (.cons (.call 149 (.cons (.v 2) .nil)) .nil))) (.cons (.k (.str "paper")) .nil)))) (.cons (.retM (.e (.ife (.call 59 (.cons (.v 3) (.cons (.v 4) (.cons (.v 2) .nil)))) (.k (.str "shown")) (.k (.str "not shown"))))) .nil))))))) .nil)⟩
def m_Desk_asked : Def := ⟨3, 8, (.cons (.keep false 4 (.cons (.expr [] (.call 140 (.cons (.cmp .eq (.bf .len (.cons (.v 1) .nil)) (.bin .add (.v 2) (.k (.int 2)))) (.cons (.k (.str "row")) .nil)))) (.cons (.for_ [] (.one 3) (.seq (.sl (.v 1) .no (.yes (.neg (.k (.int 1)))))) (.cons (.expr [] (.call 141 (.cons (.v 3) .nil))) .nil)) (.cons (.asg 4 [] (.call 142 (.cons (.ix (.v 1) (.neg (.k (.int 1)))) (.cons (.g 15) .nil)))) (.cons (.asgM 5 (.lcm 3 (.mx 0 4 152 (.cons (.e (.v 3)) .nil)) (.seq (.sl (.v 1) .no (.yes (.v 2)))))) (.cons (.asgM 6 (.mx 0 4 153 (.cons (.e (.ix (.v 1) (.v 2))) .nil))) (.cons (.expr [] (.call 140 (.cons (.bf .all (.cons (.lc [7] (.cmp .le (.call 76 (.cons (.v 7) .nil)) (.bf .len (.cons (.v 6) .nil))) (.one 7) (.seq (.v 5)) .no) .nil)) (.cons (.k (.str "box")) .nil)))) (.cons (.retM (.e (.tup (.cons (.v 5) (.cons (.v 6) (.cons (.v 4) .nil)))))) .nil)))))))) .nil)⟩
def m_Desk_to_zeros : Def := ⟨2, 6, (.cons (.keep false 4 (.cons (.asgMT [2, 3, 4] (.mx 0 4 160 (.cons (.e (.v 1)) (.cons (.e (.k (.int 1))) .nil)))) (.cons (.expr [] (.call 140 (.cons (.cmp .eq (.bf .len (.cons (.v 3) .nil)) (.k (.int 1))) (.cons (.k (.str "box")) .nil)))) (.cons (.retM (.e (.call 148 (.cons (.lc [5] (.call 147 (.cons (.v 5) .nil)) (.one 5) (.seq (.call 81 (.cons (.ix (.v 2) (.k (.int 0))) (.cons (.call 80 (.cons (.ix (.v 2) (.k (.int 0))) (.cons (.ix (.v 3) (.k (.int 0))) (.cons (.v 4) .nil)))) .nil)))) .no) .nil)))) .nil)))) .nil)⟩
def m_Desk_to_both : Def := ⟨2, 8, (.cons (.keep false 4 (.cons (.asgMT [3, 4, 5] (.mx 0 4 160 (.cons (.e (.v 1)) (.cons (.e (.k (.int 2))) .nil)))) (.cons (.expr [] (.call 140 (.cons (.cmp .eq (.bf .len (.cons (.v 4) .nil)) (.k (.int 2))) (.cons (.k (.str "box")) .nil)))) (.cons (.asg 2 [] (.call 116 (.cons (.v 4) (.cons (.call 115 (.cons (.ix (.v 3) (.k (.int 0))) (.cons (.ix (.v 3) (.k (.int 1))) (.cons (.v 4) (.cons (.v 5) .nil))))) .nil)))) (.cons (.retM (.e (.call 148 (.cons (.lc [6, 7] (.bin .add (.bin .add (.v 6) (.k (.str " "))) (.call 146 (.cons (.v 7) .nil))) (.many [6, 7]) (.seq (.v 2)) .no) .nil)))) .nil))))) .nil)⟩
def m_Desk_to_top : Def := ⟨2, 7, (.cons (.keep false 4 (.cons (.asgMT [4, 5, 6] (.mx 0 4 160 (.cons (.e (.v 1)) (.cons (.e (.k (.int 1))) .nil)))) (.cons (.asg 2 [] (.call 98 (.cons (.ix (.v 4) (.k (.int 0))) (.cons (.v 5) (.cons (.v 6) .nil))))) (.cons (.iff [] (.cmp .is (.v 2) (.k .none)) (.cons (.retM (.e (.k (.str "unknown")))) .nil) .nil) (.cons (.asg 3 [] (.bin .add (.bin .add (.call 128 (.cons (.call 33 (.cons (.ix (.v 4) (.k (.int 0))) (.cons (.ix (.v 2) (.k (.int 0))) .nil))) .nil)) (.k (.str " at "))) (.call 145 (.cons (.ix (.v 2) (.k (.int 0))) .nil)))) (.cons (.retM (.e (.bin .add (.bin .add (.v 3) (.k (.str " below "))) (.call 128 (.cons (.ix (.v 2) (.k (.int 1))) .nil))))) .nil)))))) .nil)⟩
def m_Desk_to_fence : Def := ⟨2, 9, (.cons (.keep false 4 (.cons (.expr [] (.call 140 (.cons (.cmp2 .le .le (.k (.int 4)) (.bf .len (.cons (.v 1) .nil)) (.bin .add (.g 11) (.k (.int 3)))) (.cons (.k (.str "row")) .nil)))) (.cons (.for_ [] (.one 2) (.seq (.bin .add (.sl (.v 1) .no (.yes (.k (.int 1)))) (.sl (.v 1) (.yes (.k (.int 3))) .no))) (.cons (.expr [] (.call 141 (.cons (.v 2) .nil))) .nil)) (.cons (.asg 3 [] (.call 142 (.cons (.ix (.v 1) (.k (.int 1))) (.cons (.k (.int 99)) .nil)))) (.cons (.asg 4 [] (.call 142 (.cons (.ix (.v 1) (.k (.int 2))) (.cons (.k (.int 99)) .nil)))) (.cons (.asgM 5 (.mx 0 4 153 (.cons (.e (.ix (.v 1) (.k (.int 0)))) .nil))) (.cons (.asgM 6 (.lcm 2 (.mx 0 4 152 (.cons (.e (.v 2)) .nil)) (.seq (.sl (.v 1) (.yes (.k (.int 3))) .no)))) (.cons (.expr [] (.call 140 (.cons (.and (.cons (.cmp .eq (.bf .len (.cons (.v 6) .nil)) (.bf .len (.cons (.v 5) .nil))) (.cons (.bf .all (.cons (.lc [8] (.cmp .le (.call 76 (.cons (.v 8) .nil)) (.bf .len (.cons (.v 5) .nil))) (.one 8) (.seq (.v 6)) .no) .nil)) .nil))) (.cons (.k (.str "box")) .nil)))) (.cons (.asg 7 [] (.call 68 (.cons (.v 6) (.cons (.v 5) (.cons (.v 3) (.cons (.v 4) .nil)))))) (.cons (.retM (.e (.ife (.cmp .is (.v 7) (.k .none)) (.k (.str "unknown")) (.tx1 .str (.bf .len (.cons (.v 7) .nil)))))) .nil)))))))))) .nil)⟩
def m_Desk_answer : Def := ⟨2, 3, (.cons (.keep false 4 (.cons (.asg 2 [] (.tx2 .split (.v 1) (.k (.str " ")))) (.cons (.iff [] (.cmp .eq (.ix (.v 2) (.k (.int 0))) (.k (.str "term"))) (.cons (.retM (.mx 0 4 154 (.cons (.e (.sl (.v 2) (.yes (.k (.int 1))) .no)) .nil))) .nil) .nil) (.cons (.iff [] (.cmp .eq (.ix (.v 2) (.k (.int 0))) (.k (.str "box"))) (.cons (.retM (.mx 0 4 155 (.cons (.e (.sl (.v 2) (.yes (.k (.int 1))) .no)) .nil))) .nil) .nil) (.cons (.iff [] (.cmp .eq (.ix (.v 2) (.k (.int 0))) (.k (.str "at"))) (.cons (.retM (.mx 0 4 156 (.cons (.e (.sl (.v 2) (.yes (.k (.int 1))) .no)) .nil))) .nil) .nil) (.cons (.iff [] (.cmp .eq (.ix (.v 2) (.k (.int 0))) (.k (.str "claim"))) (.cons (.retM (.mx 0 4 158 (.cons (.e (.sl (.v 2) (.yes (.k (.int 1))) .no)) .nil))) .nil) .nil) (.cons (.iff [] (.cmp .eq (.ix (.v 2) (.k (.int 0))) (.k (.str "look"))) (.cons (.retM (.mx 0 4 159 (.cons (.e (.sl (.v 2) (.yes (.k (.int 1))) .no)) .nil))) .nil) .nil) (.cons (.iff [] (.cmp .eq (.ix (.v 2) (.k (.int 0))) (.k (.str "zeros"))) (.cons (.retM (.mx 0 4 161 (.cons (.e (.sl (.v 2) (.yes (.k (.int 1))) .no)) .nil))) .nil) .nil) (.cons (.iff [] (.cmp .eq (.ix (.v 2) (.k (.int 0))) (.k (.str "both"))) (.cons (.retM (.mx 0 4 162 (.cons (.e (.sl (.v 2) (.yes (.k (.int 1))) .no)) .nil))) .nil) .nil) (.cons (.iff [] (.cmp .eq (.ix (.v 2) (.k (.int 0))) (.k (.str "top"))) (.cons (.retM (.mx 0 4 163 (.cons (.e (.sl (.v 2) (.yes (.k (.int 1))) .no)) .nil))) .nil) .nil) (.cons (.expr [] (.call 140 (.cons (.cmp .eq (.ix (.v 2) (.k (.int 0))) (.k (.str "fence"))) (.cons (.k (.str "row")) .nil)))) (.cons (.retM (.mx 0 4 164 (.cons (.e (.sl (.v 2) (.yes (.k (.int 1))) .no)) .nil))) .nil)))))))))))) .nil)⟩
def m_Desk_say : Def := ⟨2, 4, (.cons (.keep false 4 (.cons (.tryD (.cons (.asgM 3 (.mx 0 4 165 (.cons (.e (.v 1)) .nil))) .nil) "refused: " [("BadText", "refused: text"), ("BadTerm", "refused: term"), ("BadPaper", "refused: paper"), ("NoWorth", "refused: worth")] 3) (.cons (.retM (.e (.k .none))) .nil))) .nil)⟩
def d_law_wrong : Def := ⟨1, 2, (.cons (.asg 1 [] (.lst (.cons (.tup (.cons (.k (.str "")) (.cons (.k (.str "row")) .nil))) (.cons (.tup (.cons (.k (.str "term")) (.cons (.k (.str "row")) .nil))) (.cons (.tup (.cons (.k (.str "term a")) (.cons (.k (.str "row")) .nil))) (.cons (.tup (.cons (.k (.str "term A x")) (.cons (.k (.str "row")) .nil))) .nil)))))) (.cons (.asg 1 [] (.bin .add (.v 1) (.lst (.cons (.tup (.cons (.k (.str "term abcdefghi x")) (.cons (.k (.str "row")) .nil))) (.cons (.tup (.cons (.k (.str "term a1 x")) (.cons (.k (.str "row")) .nil))) (.cons (.tup (.cons (.k (.str "terms a x")) (.cons (.k (.str "row")) .nil))) .nil)))))) (.cons (.asg 1 [] (.bin .add (.v 1) (.lst (.cons (.tup (.cons (.k (.str " term a x")) (.cons (.k (.str "row")) .nil))) (.cons (.tup (.cons (.k (.str "box b 1")) (.cons (.k (.str "row")) .nil))) (.cons (.tup (.cons (.k (.str "box b")) (.cons (.k (.str "row")) .nil))) (.cons (.tup (.cons (.k (.str "box b 0 1 0")) (.cons (.k (.str "row")) .nil))) .nil))))))) (.cons (.asg 1 [] (.bin .add (.v 1) (.lst (.cons (.tup (.cons (.k (.str "box b 0 1 0 1 0 1 0 1")) (.cons (.k (.str "row")) .nil))) (.cons (.tup (.cons (.k (.str "box b 0  1")) (.cons (.k (.str "row")) .nil))) (.cons (.tup (.cons (.k (.str "box b 01 2")) (.cons (.k (.str "row")) .nil))) .nil)))))) (.cons (.asg 1 [] (.bin .add (.v 1) (.lst (.cons (.tup (.cons (.k (.str "box b 1 2/4")) (.cons (.k (.str "row")) .nil))) (.cons (.tup (.cons (.k (.str "box b 1 0")) (.cons (.k (.str "box")) .nil))) (.cons (.tup (.cons (.k (.str "box b 0 1 1/2 1/3")) (.cons (.k (.str "box")) .nil))) .nil)))))) (.cons (.asg 1 [] (.bin .add (.v 1) (.lst (.cons (.tup (.cons (.k (.str "box b 0 x")) (.cons (.k (.str "row")) .nil))) (.cons (.tup (.cons (.k (.str "at a")) (.cons (.k (.str "row")) .nil))) (.cons (.tup (.cons (.k (.str "at a 1 1 1 1")) (.cons (.k (.str "row")) .nil))) (.cons (.tup (.cons (.k (.str "at c 1")) (.cons (.k (.str "name")) .nil))) .nil))))))) (.cons (.asg 1 [] (.bin .add (.v 1) (.lst (.cons (.tup (.cons (.k (.str "at ab 1")) (.cons (.k (.str "box")) .nil))) (.cons (.tup (.cons (.k (.str "at a 1.5")) (.cons (.k (.str "row")) .nil))) (.cons (.tup (.cons (.k (.str "at A 1")) (.cons (.k (.str "row")) .nil))) (.cons (.tup (.cons (.k (.str "at div 0")) (.cons (.k (.str "worth")) .nil))) .nil))))))) (.cons (.asg 1 [] (.bin .add (.v 1) (.lst (.cons (.tup (.cons (.k (.str "term a x+")) (.cons (.k (.str "text")) .nil))) (.cons (.tup (.cons (.k (.str "term a w")) (.cons (.k (.str "text")) .nil))) (.cons (.tup (.cons (.k (.str "term a ((x^5)^5)")) (.cons (.k (.str "term")) .nil))) .nil)))))) (.cons (.asg 1 [] (.bin .add (.v 1) (.lst (.cons (.tup (.cons (.k (.str "term a x^7")) (.cons (.k (.str "text")) .nil))) (.cons (.tup (.cons (.k (.str "claim above a 0 b")) (.cons (.k (.str "row")) .nil))) (.cons (.tup (.cons (.k (.str "claim")) (.cons (.k (.str "row")) .nil))) .nil)))))) (.cons (.asg 1 [] (.bin .add (.v 1) (.lst (.cons (.tup (.cons (.k (.str "claim over a 0 b 1")) (.cons (.k (.str "row")) .nil))) (.cons (.tup (.cons (.k (.str "claim above a 0 b 13")) (.cons (.k (.str "row")) .nil))) .nil))))) (.cons (.asg 1 [] (.bin .add (.v 1) (.lst (.cons (.tup (.cons (.k (.str "claim above a 0 b 01")) (.cons (.k (.str "row")) .nil))) (.cons (.tup (.cons (.k (.str "claim above a 0 c 1")) (.cons (.k (.str "name")) .nil))) .nil))))) (.cons (.asg 1 [] (.bin .add (.v 1) (.lst (.cons (.tup (.cons (.k (.str "claim above c 0 b 1")) (.cons (.k (.str "name")) .nil))) (.cons (.tup (.cons (.k (.str "claim above a -0 b 1")) (.cons (.k (.str "row")) .nil))) .nil))))) (.cons (.asg 1 [] (.bin .add (.v 1) (.lst (.cons (.tup (.cons (.k (.str "claim above ab 0 b 1")) (.cons (.k (.str "box")) .nil))) (.cons (.tup (.cons (.k (.str "claim apart a 0 b 1 1")) (.cons (.k (.str "row")) .nil))) .nil))))) (.cons (.asg 1 [] (.bin .add (.v 1) (.lst (.cons (.tup (.cons (.k (.str "look above a 0 b")) (.cons (.k (.str "row")) .nil))) (.cons (.tup (.cons (.k (.str "look above a 0 b covers")) (.cons (.k (.str "paper")) .nil))) .nil))))) (.cons (.asg 1 [] (.bin .add (.v 1) (.lst (.cons (.tup (.cons (.k (.str "look above a 0 b kept")) (.cons (.k (.str "paper")) .nil))) .nil)))) (.cons (.asg 1 [] (.bin .add (.v 1) (.lst (.cons (.tup (.cons (.k (.str "look above a 0 b slope 1 1")) (.cons (.k (.str "paper")) .nil))) .nil)))) (.cons (.asg 1 [] (.bin .add (.v 1) (.lst (.cons (.tup (.cons (.k (.str "look above a 0 b cut 1 0 cover cover")) (.cons (.k (.str "paper")) .nil))) .nil)))) (.cons (.asg 1 [] (.bin .add (.v 1) (.lst (.cons (.tup (.cons (.k (.str "look above a 0 b cut 0 0 cover out")) (.cons (.k (.str "paper")) .nil))) (.cons (.tup (.cons (.k (.str "look above c 0 b cover")) (.cons (.k (.str "name")) .nil))) .nil))))) (.cons (.asg 1 [] (.bin .add (.v 1) (.lst (.cons (.tup (.cons (.k (.str "zeros a b")) (.cons (.k (.str "row")) .nil))) (.cons (.tup (.cons (.k (.str "zeros a b 1 1")) (.cons (.k (.str "row")) .nil))) (.cons (.tup (.cons (.k (.str "zeros a b x")) (.cons (.k (.str "row")) .nil))) .nil)))))) (.cons (.asg 1 [] (.bin .add (.v 1) (.lst (.cons (.tup (.cons (.k (.str "zeros a bb 1")) (.cons (.k (.str "box")) .nil))) (.cons (.tup (.cons (.k (.str "zeros ab b 1")) (.cons (.k (.str "box")) .nil))) (.cons (.tup (.cons (.k (.str "zeros c b 1")) (.cons (.k (.str "name")) .nil))) .nil)))))) (.cons (.asg 1 [] (.bin .add (.v 1) (.lst (.cons (.tup (.cons (.k (.str "both a b 1")) (.cons (.k (.str "row")) .nil))) (.cons (.tup (.cons (.k (.str "both a ab b 1")) (.cons (.k (.str "box")) .nil))) (.cons (.tup (.cons (.k (.str "both a ab c 1")) (.cons (.k (.str "name")) .nil))) .nil)))))) (.cons (.asg 1 [] (.bin .add (.v 1) (.lst (.cons (.tup (.cons (.k (.str "both a a b 1")) (.cons (.k (.str "box")) .nil))) (.cons (.tup (.cons (.k (.str "top a b 99")) (.cons (.k (.str "row")) .nil))) (.cons (.tup (.cons (.k (.str "top a c 1")) (.cons (.k (.str "name")) .nil))) .nil)))))) (.cons (.asg 1 [] (.bin .add (.v 1) (.lst (.cons (.tup (.cons (.k (.str "top ab b 1")) (.cons (.k (.str "box")) .nil))) (.cons (.tup (.cons (.k (.str "fence b 1 1")) (.cons (.k (.str "row")) .nil))) (.cons (.tup (.cons (.k (.str "fence b 1 1 a a")) (.cons (.k (.str "box")) .nil))) .nil)))))) (.cons (.asg 1 [] (.bin .add (.v 1) (.lst (.cons (.tup (.cons (.k (.str "fence bb 1 1 a")) (.cons (.k (.str "box")) .nil))) (.cons (.tup (.cons (.k (.str "fence b 1 100 a")) (.cons (.k (.str "row")) .nil))) (.cons (.tup (.cons (.k (.str "fence b 1 1 c")) (.cons (.k (.str "name")) .nil))) .nil)))))) (.cons (.asg 1 [] (.bin .add (.v 1) (.lst (.cons (.tup (.cons (.k (.str "fence c 1 1 a")) (.cons (.k (.str "name")) .nil))) (.cons (.tup (.cons (.k (.str "fence b 1 1 ab")) (.cons (.k (.str "box")) .nil))) (.cons (.tup (.cons (.k (.str "fence b 1 1 a a a a")) (.cons (.k (.str "row")) .nil))) .nil)))))) (.cons (.asg 1 [] (.bin .add (.v 1) (.lst (.cons (.tup (.cons (.k (.str "Term a x")) (.cons (.k (.str "row")) .nil))) (.cons (.tup (.cons (.k (.str "at a 1 ")) (.cons (.k (.str "row")) .nil))) (.cons (.tup (.cons (.k (.str "zeros a b 1 ")) (.cons (.k (.str "row")) .nil))) .nil)))))) (.cons (.ret [] (.ix (.v 1) (.bin .mod (.v 0) (.bf .len (.cons (.v 1) .nil))))) .nil)))))))))))))))))))))))))))⟩
def d_law : Def := ⟨1, 8, (.cons (.new 1 4 151 .nil) (.cons (.asg 2 [] (.lst (.cons (.k (.str "term a x-1/2")) (.cons (.k (.str "term ab x+y")) (.cons (.k (.str "term div 1:x")) (.cons (.k (.str "box b 0 1")) (.cons (.k (.str "box bb 0 1 -1 1")) .nil))))))) (.cons (.iffM (.cmp .ne (.lcm 6 (.mx 1 4 166 (.cons (.e (.v 6)) .nil)) (.seq (.v 2))) (.bin .mul (.lst (.cons (.k (.str "ok")) .nil)) (.k (.int 5)))) (.cons (.ret [] (.k (.bool false))) .nil) .nil) (.cons (.for_ [] (.one 3) (.rng1 (.bf .max (.cons (.k (.int 1)) (.cons (.bf .min (.cons (.k (.int 6)) (.cons (.bf .len (.cons (.v 0) .nil)) .nil))) .nil)))) (.cons (.asg 4 [] (.call 1001 (.cons (.call 1000 (.cons (.v 0) (.cons (.v 3) .nil))) (.cons (.v 3) .nil)))) (.cons (.asgT [6, 7] [] (.call 1170 (.cons (.v 4) .nil))) (.cons (.iffM (.or (.cmp .ne (.mx 1 4 166 (.cons (.e (.v 6)) .nil)) (.bin .add (.k (.str "refused: ")) (.v 7))) (.cmp .ne (.mx 1 4 166 (.cons (.e (.v 6)) .nil)) (.bin .add (.k (.str "refused: ")) (.v 7)))) (.cons (.ret [] (.k (.bool false))) .nil) .nil) (.cons (.asg 5 [] (.lst (.cons (.tup (.cons (.k (.str "zeros a b 0")) (.cons (.k (.str "in 0 1")) .nil))) (.cons (.tup (.cons (.k (.str "at ab 1/3 2")) (.cons (.k (.str "7/3")) .nil))) (.cons (.tup (.cons (.k (.str "look above ab -2 bb cover")) (.cons (.k (.str "shown")) .nil))) .nil))))) (.cons (.asg 5 [] (.bin .add (.v 5) (.lst (.cons (.tup (.cons (.k (.str "top a b 0")) (.cons (.k (.str "1/2 at 1 below 1/2")) .nil))) (.cons (.tup (.cons (.k (.str "look below a 1 b cover")) (.cons (.k (.str "shown")) .nil))) (.cons (.tup (.cons (.k (.str "at div 4")) (.cons (.k (.str "1/4")) .nil))) .nil)))))) (.cons (.asgT [6, 7] [] (.ix (.v 5) (.bin .mod (.bin .fdiv (.v 4) (.bin .pow (.k (.int 2)) (.k (.int 20)))) (.k (.int 6))))) (.cons (.iffM (.cmp .ne (.mx 1 4 166 (.cons (.e (.v 6)) .nil)) (.v 7)) (.cons (.ret [] (.k (.bool false))) .nil) .nil) .nil)))))))) (.cons (.ret [] (.k (.bool true))) .nil)))))⟩
def bL : List (Nat × Def) := [(23, d_least_of), (24, d_greatest_of), (25, d_around), (26, d_has), (27, d_sum_of), (28, d_less_of), (29, d_product_of), (30, d_power_of), (31, d_quotient_of), (41, d_is_within), (42, d_met), (43, d_hull), (44, d_with_side), (45, d_halves), (46, d_middle_of), (47, d_corners), (48, d_widest), (49, d_at_point), (34, d_sum_term), (35, d_less_term), (36, d_times_term), (37, d_power_term), (38, d_over_slope), (39, d_slope), (50, d_joined), (51, d_cover), (52, d_sloped), (71, d_parts), (72, d_weight), (73, d_is_small), (74, d_is_bounded), (75, d_need_term), (76, d_arity), (33, d_worth), (56, d_shows), (57, d_need_paper), (58, d_is_shown), (59, d_stands), (61, d_worth_or_none), (62, d_leaf), (63, d_against), (64, d_settled), (69, d_sign_of), (77, d_end_signs), (78, d_sort_of), (81, d_places), (79, d_parts_of), (80, d_zeros), (53, d_reach_of), (54, d_moved_box), (55, d_boxes_after), (67, d_lies_in), (68, d_fence), (99, d_at_number), (100, d_scaled), (101, d_row_of), (102, m_Look_init), (107, m_Look_place), (108, m_Look_lies_within), (109, m_Look_is_one), (113, d_matrix_of), (114, d_net_of), (115, d_both), (116, d_shared), (117, m_Reader_init), (118, m_Reader_need), (119, m_Reader_sign), (120, m_Reader_takes), (121, m_Reader_figures), (122, m_Reader_number), (124, m_Reader_part), (125, m_Reader_raised), (126, m_Reader_product), (123, m_Reader_whole), (127, d_term_of), (88, d_lesser), (89, d_bound), (93, m_Hunt_init), (94, m_Hunt_look_at), (95, m_Hunt_is_out), (96, m_Hunt_search), (97, m_Hunt_laid), (98, d_highest), (106, d_need), (128, d_number_text), (129, d_figures_of), (130, d_number_of), (131, d_words_of), (132, d_text_of), (133, m_Words_init), (134, m_Words_following), (135, m_Words_several), (136, m_Words_one_thing), (137, d_tree_of), (140, d_need_word), (141, d_need_name), (142, d_count_of), (143, d_fraction_by), (144, d_numbers_by), (145, d_numbers_text), (146, d_box_text), (147, d_place_text), (148, d_all_text), (149, d_is_paper), (150, d_settled_text), (151, m_Desk_init), (152, m_Desk_term_by), (153, m_Desk_box_by), (154, m_Desk_to_term), (155, m_Desk_to_box), (156, m_Desk_to_at), (157, m_Desk_claim_by), (158, m_Desk_to_claim), (159, m_Desk_to_look), (160, m_Desk_asked), (161, m_Desk_to_zeros), (162, m_Desk_to_both), (163, m_Desk_to_top), (164, m_Desk_to_fence), (165, m_Desk_answer), (166, m_Desk_say), (1170, d_law_wrong), (1171, d_law)]
def allD : List (Nat × Def) := bL ++ b1
def tb : Nat → Option Def := tab allD
theorem nodup : (allD.map (·.1)).Nodup := by decide +kernel
instance : Lay bL tb := Lay.of nodup (fun p h => by unfold allD; simp only [List.mem_append]; simp only [h, true_or, or_true])
instance : Lay b1 tb := Lay.of nodup (fun p h => by unfold allD; simp only [List.mem_append]; simp only [h, true_or, or_true])
section
open PySem.Spec PyProof.Rows L2
theorem look : (txt.ents.all fun e => e.look tb txt.gm txt.ex) = true := by decide +kernel
theorem lookW : (txt.wrds.all fun e => e.lookW txt.ex) = true := by decide +kernel
theorem lookM : (txt.mths.all fun m => m.look tb txt.gm txt.ex) = true := by decide +kernel
end
local macro_rules | `(tactic| walk_at "cw") => `(tactic| simp -implicitDefEqProofs only [ss_nil, ss_cons, goSs_next, goSs_ret, goSs_exc, goSs_brk, goSs_cont, s_asg', s_asgL2, asgL_ok, see_cons, see1_ow, see1_fr, see1_no, see1_S, ow_0, ow_S, s_app', app_some, app_exc, s_asgT', s_par', s_ret', s_iff', s_whl', s_for', s_rais', s_expr', s_brk', s_cont', s_pass', s_try', s_tryW', tryW_ret, tryW_next, tryW_exc, tryN_ret, tryN_next, tryN_exc, e_k, e_v, e_g, e_tup', e_lst', e_bin', e_neg', e_not', e_and', e_or', e_cmp', e_cmp2', e_ife', e_ix', e_sl', e_call', e_bf', e_isi', e_lc', es_nil, es_cons, and_one, and_cons, or_one, or_cons, eo_no, eo_yes, ec_no, ec_yes, ei_seq, ei_rng1, ei_rng2, ei_zip, ei_enum, gv0, gvS, see0, fl_int, fl_bool, fl_str, fl_none, fl_tup, fl_lst, bind_ok, bind_bad, bind_exc, onR_ok, onR_exc, onR_bad, toB_bool, toB_exc, eq_int, ne_int, lt_int', le_int', gt_int', ge_int', add_int', sub_int', bf_abs, bf_max, bf_min, bf_len, bf_lenT, bf_int, bf_intB, startE, List.map_cons, List.map_nil, List.length_cons, List.length_map, List.length_nil, List.cons_append, List.nil_append, List.set_cons_zero, List.set_cons_succ, List.replicate, Nat.sub_self, Nat.reduceSub, Nat.reduceAdd, if_true, if_false, Bool.false_eq_true, reduceIte, ixT0, ixT1, ixT2, outR_ret, outR_next, outR_exc, setT, setMany, wipeE, rng1_ok, rng2_ok, not_ok, neg_ok, and_t, and_f, and_ok, and_x, or_t, or_f, or_ok, or_x, ife_b, Bool.not_true, Bool.not_false, Bool.true_and, Bool.and_true, Bool.false_and, Bool.and_false, Bool.true_or, Bool.or_true, Bool.false_or, Bool.or_false, decide_true, decide_false, beq_self_eq_true, Int.reduceBEq, Int.reduceLT, Int.reduceLE, Int.reduceAdd, Int.reduceSub, Int.reduceNeg, Int.cast_ofNat_Int, fl_fr, eq_fr, ne_fr, ix_fr0, ix_fr1, ite_self, lc_nil, lc_cons, consR_s, consR_n, bf_all, bf_any, bf_sum, bf_tup, ofO_some, bls_nil, bls_cons, ints_nil, ints_cons, Option.map_some, seq_lst, seq_tup, ixL0, ixL1, ixL2, ixL3, isi_bi, isi_bb, isi_ii, isi_ib, isi_tt, List.all_cons, List.all_nil, id, pw_10_11, pw_10_12, pw_10_13, pw_10_30, pw_10_40, pw_10_6, pw_10_9, pw_2_8, pw_2_10, pw_2_12, pw_2_13, pw_2_14, pw_2_15, pw_2_16, pw_2_17, pw_2_18, pw_2_20, pw_2_24, pw_2_25, pw_2_27, pw_2_28, pw_2_30, pw_2_32, pw_2_34, pw_2_36, pw_2_38, pw_2_40, pw_2_41, pw_2_42, pw_2_44, pw_2_50, pw_2_54, pw_2_56, pw_2_60, e_rev', e_mx0', e_ins', rev_lst, s_setC'])
local macro_rules | `(tactic| walk_at "cw*") => `(tactic| simp -implicitDefEqProofs only [*, ss_nil, ss_cons, goSs_next, goSs_ret, goSs_exc, goSs_brk, goSs_cont, s_asg', s_asgL2, asgL_ok, see_cons, see1_ow, see1_fr, see1_no, see1_S, ow_0, ow_S, s_app', app_some, app_exc, s_asgT', s_par', s_ret', s_iff', s_whl', s_for', s_rais', s_expr', s_brk', s_cont', s_pass', s_try', s_tryW', tryW_ret, tryW_next, tryW_exc, tryN_ret, tryN_next, tryN_exc, e_k, e_v, e_g, e_tup', e_lst', e_bin', e_neg', e_not', e_and', e_or', e_cmp', e_cmp2', e_ife', e_ix', e_sl', e_call', e_bf', e_isi', e_lc', es_nil, es_cons, and_one, and_cons, or_one, or_cons, eo_no, eo_yes, ec_no, ec_yes, ei_seq, ei_rng1, ei_rng2, ei_zip, ei_enum, gv0, gvS, see0, fl_int, fl_bool, fl_str, fl_none, fl_tup, fl_lst, bind_ok, bind_bad, bind_exc, onR_ok, onR_exc, onR_bad, toB_bool, toB_exc, eq_int, ne_int, lt_int', le_int', gt_int', ge_int', add_int', sub_int', bf_abs, bf_max, bf_min, bf_len, bf_lenT, bf_int, bf_intB, startE, List.map_cons, List.map_nil, List.length_cons, List.length_map, List.length_nil, List.cons_append, List.nil_append, List.set_cons_zero, List.set_cons_succ, List.replicate, Nat.sub_self, Nat.reduceSub, Nat.reduceAdd, if_true, if_false, Bool.false_eq_true, reduceIte, ixT0, ixT1, ixT2, outR_ret, outR_next, outR_exc, setT, setMany, wipeE, rng1_ok, rng2_ok, not_ok, neg_ok, and_t, and_f, and_ok, and_x, or_t, or_f, or_ok, or_x, ife_b, Bool.not_true, Bool.not_false, Bool.true_and, Bool.and_true, Bool.false_and, Bool.and_false, Bool.true_or, Bool.or_true, Bool.false_or, Bool.or_false, decide_true, decide_false, beq_self_eq_true, Int.reduceBEq, Int.reduceLT, Int.reduceLE, Int.reduceAdd, Int.reduceSub, Int.reduceNeg, Int.cast_ofNat_Int, fl_fr, eq_fr, ne_fr, ix_fr0, ix_fr1, ite_self, lc_nil, lc_cons, consR_s, consR_n, bf_all, bf_any, bf_sum, bf_tup, ofO_some, bls_nil, bls_cons, ints_nil, ints_cons, Option.map_some, seq_lst, seq_tup, ixL0, ixL1, ixL2, ixL3, isi_bi, isi_bb, isi_ii, isi_ib, isi_tt, List.all_cons, List.all_nil, id, pw_10_11, pw_10_12, pw_10_13, pw_10_30, pw_10_40, pw_10_6, pw_10_9, pw_2_8, pw_2_10, pw_2_12, pw_2_13, pw_2_14, pw_2_15, pw_2_16, pw_2_17, pw_2_18, pw_2_20, pw_2_24, pw_2_25, pw_2_27, pw_2_28, pw_2_30, pw_2_32, pw_2_34, pw_2_36, pw_2_38, pw_2_40, pw_2_41, pw_2_42, pw_2_44, pw_2_50, pw_2_54, pw_2_56, pw_2_60, e_rev', e_mx0', e_ins', rev_lst, s_setC'])

def rowsL : List (Str × Str) := ([("", "row"), ("term", "row"), ("term a", "row"), ("term A x", "row"), ("term abcdefghi x", "row")] : List (Str × Str)) ++ ([("term a1 x", "row"), ("terms a x", "row"), (" term a x", "row"), ("box b 1", "row"), ("box b", "row")] : List (Str × Str)) ++ ([("box b 0 1 0", "row"), ("box b 0 1 0 1 0 1 0 1", "row"), ("box b 0  1", "row"), ("box b 01 2", "row"), ("box b 1 2/4", "row")] : List (Str × Str)) ++ ([("box b 1 0", "box"), ("box b 0 1 1/2 1/3", "box"), ("box b 0 x", "row"), ("at a", "row"), ("at a 1 1 1 1", "row")] : List (Str × Str)) ++ ([("at c 1", "name"), ("at ab 1", "box"), ("at a 1.5", "row"), ("at A 1", "row"), ("at div 0", "worth")] : List (Str × Str)) ++ ([("term a x+", "text"), ("term a w", "text"), ("term a ((x^5)^5)", "term"), ("term a x^7", "text"), ("claim above a 0 b", "row")] : List (Str × Str)) ++ ([("claim", "row"), ("claim over a 0 b 1", "row"), ("claim above a 0 b 13", "row"), ("claim above a 0 b 01", "row"), ("claim above a 0 c 1", "name")] : List (Str × Str)) ++ ([("claim above c 0 b 1", "name"), ("claim above a -0 b 1", "row"), ("claim above ab 0 b 1", "box"), ("claim apart a 0 b 1 1", "row"), ("look above a 0 b", "row")] : List (Str × Str)) ++ ([("look above a 0 b covers", "paper"), ("look above a 0 b kept", "paper"), ("look above a 0 b slope 1 1", "paper"), ("look above a 0 b cut 1 0 cover cover", "paper"), ("look above a 0 b cut 0 0 cover out", "paper")] : List (Str × Str)) ++ ([("look above c 0 b cover", "name"), ("zeros a b", "row"), ("zeros a b 1 1", "row"), ("zeros a b x", "row"), ("zeros a bb 1", "box")] : List (Str × Str)) ++ ([("zeros ab b 1", "box"), ("zeros c b 1", "name"), ("both a b 1", "row"), ("both a ab b 1", "box"), ("both a ab c 1", "name")] : List (Str × Str)) ++ ([("both a a b 1", "box"), ("top a b 99", "row"), ("top a c 1", "name"), ("top ab b 1", "box"), ("fence b 1 1", "row")] : List (Str × Str)) ++ ([("fence b 1 1 a a", "box"), ("fence bb 1 1 a", "box"), ("fence b 1 100 a", "row"), ("fence b 1 1 c", "name"), ("fence c 1 1 a", "name")] : List (Str × Str)) ++ ([("fence b 1 1 ab", "box"), ("fence b 1 1 a a a a", "row"), ("Term a x", "row"), ("at a 1 ", "row"), ("zeros a b 1 ", "row")] : List (Str × Str))
def goodL : List (Str × Str) := [("zeros a b 0", "in 0 1"), ("at ab 1/3 2", "7/3"), ("look above ab -2 bb cover", "shown"), ("top a b 0", "1/2 at 1 below 1/2"), ("look below a 1 b cover", "shown"), ("at div 4", "1/4")]
def tA : D := .tuple [.str "less", .tuple [.str "var", .int 0], .tuple [.str "num", .tuple [.int 1, .int 2]]]
def tAb : D := .tuple [.str "sum", .tuple [.str "var", .int 0], .tuple [.str "var", .int 1]]
def tDiv : D := .tuple [.str "over", .tuple [.str "num", .tuple [.int 1, .int 1]], .tuple [.str "var", .int 0]]
def sd (a b : Int) : D := .tuple [.tuple [.int a, .int 1], .tuple [.int b, .int 1]]
def bB : D := .tuple [sd 0 1]
def bBb : D := .tuple [sd 0 1, sd (-1) 1]
def s0 : List D := [.dict [], .dict []]
def s1 : List D := [.dict [(.str "a", tA)], .dict []]
def s2 : List D := [.dict [(.str "a", tA), (.str "ab", tAb)], .dict []]
def s3 : List D := [.dict [(.str "a", tA), (.str "ab", tAb), (.str "div", tDiv)], .dict []]
def s4 : List D := [.dict [(.str "a", tA), (.str "ab", tAb), (.str "div", tDiv)], .dict [(.str "b", bB)]]
def s5 : List D := [.dict [(.str "a", tA), (.str "ab", tAb), (.str "div", tDiv)], .dict [(.str "b", bB), (.str "bb", bBb)]]
theorem f_init : evcF tb 300 138 151 [.tuple []] = .ok (.tuple [.none, .tuple s0]) := by kernel_rfl
theorem f_1 : evcF tb 300 138 166 [.tuple s0, .str "term a x-1/2"] = .ok (.tuple [.str "ok", .tuple s1]) := by kernel_rfl
theorem f_2 : evcF tb 300 138 166 [.tuple s1, .str "term ab x+y"] = .ok (.tuple [.str "ok", .tuple s2]) := by kernel_rfl
theorem f_3 : evcF tb 300 138 166 [.tuple s2, .str "term div 1:x"] = .ok (.tuple [.str "ok", .tuple s3]) := by kernel_rfl
theorem f_4 : evcF tb 300 138 166 [.tuple s3, .str "box b 0 1"] = .ok (.tuple [.str "ok", .tuple s4]) := by kernel_rfl
theorem f_5 : evcF tb 300 138 166 [.tuple s4, .str "box bb 0 1 -1 1"] = .ok (.tuple [.str "ok", .tuple s5]) := by kernel_rfl
theorem f_rows : (rowsL.map fun q => evcF tb 300 138 166 [.tuple s5, .str q.1]) = rowsL.map fun q => .ok (.tuple [.str ("refused: " ++ q.2), .tuple s5]) := by kernel_rfl
theorem f_good : (goodL.map fun q => evcF tb 300 138 166 [.tuple s5, .str q.1]) = goodL.map fun q => .ok (.tuple [.str q.2, .tuple s5]) := by kernel_rfl
/-! the law -/
def ssL : Ss → List S
  | .nil => []
  | .cons s ss => s :: ssL ss
def ssD : Nat → Ss → Ss
  | 0, ss => ss
  | n + 1, .cons _ ss => ssD n ss
  | _, .nil => .nil
def st (k : Nat) : S := (ssL d_law.body).getD k .pass
def bod (k : Nat) : Ss := ssD k d_law.body
def forB : Ss := match st 3 with
  | .for_ _ _ _ b => b
  | _ => .nil
def ft (k : Nat) : S := (ssL forB).getD k .pass
def fbod (k : Nat) : Ss := ssD k forB
theorem s_by {T : Nat → Option Def} {fu n : Nat} {env env2 : List Sl} {s : S} (h : evSF (evcF T fu n) fu env s = .next env2) : evS (evc T n) env s = .next env2 := by
  rcases evSLe (fun f ds => (evcLe2 (T := T) (fu := fu) n).1 f ds) (fu := fu) s env with q | q
  · rw [q] at h; cases h
  · rw [← q]; exact h
theorem ss_by {T : Nat → Option Def} {n : Nat} {env env2 : List Sl} {s : S} {ss : Ss} (h : evS (evc T n) env s = .next env2) : evSs (evc T n) env (.cons s ss) = evSs (evc T n) env2 ss := by
  simp only [evSs]
  rw [h]
def five : D := .list [.str "term a x-1/2", .str "term ab x+y", .str "term div 1:x", .str "box b 0 1", .str "box bb 0 1 -1 1"]
theorem c_0 (X : D) : evSF (evcF tb 300 140) 300 (startE 8 [X]) (st 0) = .next [.fr X, .ob false 4 s0, .no, .no, .no, .no, .no, .no] := by kernel_rfl
theorem c_1 (X : D) : evSF (evcF tb 300 140) 300 [.fr X, .ob false 4 s0, .no, .no, .no, .no, .no, .no] (st 1) = .next [.fr X, .ob false 4 s0, .fr five, .no, .no, .no, .no, .no] := by kernel_rfl
theorem c_2 (X : D) : evSF (evcF tb 300 140) 300 [.fr X, .ob false 4 s0, .fr five, .no, .no, .no, .no, .no] (st 2) = .next [.fr X, .ob false 4 s5, .fr five, .no, .no, .no, .no, .no] := by kernel_rfl
/-- a wrong row, asked twice -/
theorem c_rows (X : D) (a b c d : Sl) : (rowsL.map fun q => evSF (evcF tb 300 140) 300 [.fr X, .ob false 4 s5, a, b, c, d, .fr (.str q.1), .fr (.str q.2)] (ft 2)) = rowsL.map fun q => .next [.fr X, .ob false 4 s5, a, b, c, d, .fr (.str q.1), .fr (.str q.2)] := by kernel_rfl
theorem c_good (X : D) (a b c d : Sl) : (goodL.map fun q => evSF (evcF tb 300 140) 300 [.fr X, .ob false 4 s5, a, b, c, d, .fr (.str q.1), .fr (.str q.2)] (ft 6)) = goodL.map fun q => .next [.fr X, .ob false 4 s5, a, b, c, d, .fr (.str q.1), .fr (.str q.2)] := by kernel_rfl
def pairsD (l : List (Str × Str)) : D := .list (l.map fun q => .tuple [.str q.1, .str q.2])
theorem c_tab (X : D) (a b c d e f : Sl) : evSF (evcF tb 300 140) 300 [.fr X, .ob false 4 s5, a, b, c, d, e, f] (ft 3) = .next [.fr X, .ob false 4 s5, a, b, c, .fr (pairsD (goodL.take 3)), e, f] := by kernel_rfl
theorem c_tab2 (X : D) (a b c e f : Sl) : evSF (evcF tb 300 140) 300 [.fr X, .ob false 4 s5, a, b, c, .fr (pairsD (goodL.take 3)), e, f] (ft 4) = .next [.fr X, .ob false 4 s5, a, b, c, .fr (pairsD goodL), e, f] := by kernel_rfl
theorem map_get {A B : Type} {f g : A → B} : ∀ {l : List A}, l.map f = l.map g → ∀ q ∈ l, f q = g q
  | [], _, q, h => by cases h
  | a :: l, h, q, hq => by
    rw [List.map_cons, List.map_cons] at h
    injection h with h1 h2
    rcases List.mem_cons.mp hq with e | e
    · rw [e]; exact h1
    · exact map_get h2 q e
theorem ix_pairs (l : List (Str × Str)) (i : Nat) (h : i < l.length) : ixR (pairsD l) (.int i) = .ok (.tuple [.str (l[i]).1, .str (l[i]).2]) := by
  unfold pairsD ixR
  have e : (l.map fun q => (.tuple [.str q.1, .str q.2] : D))[i]? = some (.tuple [.str (l[i]).1, .str (l[i]).2]) := by
    rw [List.getElem?_map, List.getElem?_eq_getElem h]; rfl
  show ofO (L2.atI (l.map fun q => (.tuple [.str q.1, .str q.2] : D)) (i : Int)) = _
  rw [L2.atI_nat e]; rfl
def wt (k : Nat) : S := (ssL d_law_wrong.body).getD k .pass
def wbod (k : Nat) : Ss := ssD k d_law_wrong.body
theorem w_0 (m : D) : evSF (evcF tb 300 139) 300 [.fr m, .no] (wt 0) = .next [.fr m, .fr (pairsD (rowsL.take 4))] := by kernel_rfl
theorem w_1 (m : D) : evSF (evcF tb 300 139) 300 [.fr m, .fr (pairsD (rowsL.take 4))] (wt 1) = .next [.fr m, .fr (pairsD (rowsL.take 7))] := by kernel_rfl
theorem w_2 (m : D) : evSF (evcF tb 300 139) 300 [.fr m, .fr (pairsD (rowsL.take 7))] (wt 2) = .next [.fr m, .fr (pairsD (rowsL.take 11))] := by kernel_rfl
theorem w_3 (m : D) : evSF (evcF tb 300 139) 300 [.fr m, .fr (pairsD (rowsL.take 11))] (wt 3) = .next [.fr m, .fr (pairsD (rowsL.take 14))] := by kernel_rfl
theorem w_4 (m : D) : evSF (evcF tb 300 139) 300 [.fr m, .fr (pairsD (rowsL.take 14))] (wt 4) = .next [.fr m, .fr (pairsD (rowsL.take 17))] := by kernel_rfl
theorem w_5 (m : D) : evSF (evcF tb 300 139) 300 [.fr m, .fr (pairsD (rowsL.take 17))] (wt 5) = .next [.fr m, .fr (pairsD (rowsL.take 21))] := by kernel_rfl
theorem w_6 (m : D) : evSF (evcF tb 300 139) 300 [.fr m, .fr (pairsD (rowsL.take 21))] (wt 6) = .next [.fr m, .fr (pairsD (rowsL.take 25))] := by kernel_rfl
theorem w_7 (m : D) : evSF (evcF tb 300 139) 300 [.fr m, .fr (pairsD (rowsL.take 25))] (wt 7) = .next [.fr m, .fr (pairsD (rowsL.take 28))] := by kernel_rfl
theorem w_8 (m : D) : evSF (evcF tb 300 139) 300 [.fr m, .fr (pairsD (rowsL.take 28))] (wt 8) = .next [.fr m, .fr (pairsD (rowsL.take 31))] := by kernel_rfl
theorem w_9 (m : D) : evSF (evcF tb 300 139) 300 [.fr m, .fr (pairsD (rowsL.take 31))] (wt 9) = .next [.fr m, .fr (pairsD (rowsL.take 33))] := by kernel_rfl
theorem w_10 (m : D) : evSF (evcF tb 300 139) 300 [.fr m, .fr (pairsD (rowsL.take 33))] (wt 10) = .next [.fr m, .fr (pairsD (rowsL.take 35))] := by kernel_rfl
theorem w_11 (m : D) : evSF (evcF tb 300 139) 300 [.fr m, .fr (pairsD (rowsL.take 35))] (wt 11) = .next [.fr m, .fr (pairsD (rowsL.take 37))] := by kernel_rfl
theorem w_12 (m : D) : evSF (evcF tb 300 139) 300 [.fr m, .fr (pairsD (rowsL.take 37))] (wt 12) = .next [.fr m, .fr (pairsD (rowsL.take 39))] := by kernel_rfl
theorem w_13 (m : D) : evSF (evcF tb 300 139) 300 [.fr m, .fr (pairsD (rowsL.take 39))] (wt 13) = .next [.fr m, .fr (pairsD (rowsL.take 41))] := by kernel_rfl
theorem w_14 (m : D) : evSF (evcF tb 300 139) 300 [.fr m, .fr (pairsD (rowsL.take 41))] (wt 14) = .next [.fr m, .fr (pairsD (rowsL.take 42))] := by kernel_rfl
theorem w_15 (m : D) : evSF (evcF tb 300 139) 300 [.fr m, .fr (pairsD (rowsL.take 42))] (wt 15) = .next [.fr m, .fr (pairsD (rowsL.take 43))] := by kernel_rfl
theorem w_16 (m : D) : evSF (evcF tb 300 139) 300 [.fr m, .fr (pairsD (rowsL.take 43))] (wt 16) = .next [.fr m, .fr (pairsD (rowsL.take 44))] := by kernel_rfl
theorem w_17 (m : D) : evSF (evcF tb 300 139) 300 [.fr m, .fr (pairsD (rowsL.take 44))] (wt 17) = .next [.fr m, .fr (pairsD (rowsL.take 46))] := by kernel_rfl
theorem w_18 (m : D) : evSF (evcF tb 300 139) 300 [.fr m, .fr (pairsD (rowsL.take 46))] (wt 18) = .next [.fr m, .fr (pairsD (rowsL.take 49))] := by kernel_rfl
theorem w_19 (m : D) : evSF (evcF tb 300 139) 300 [.fr m, .fr (pairsD (rowsL.take 49))] (wt 19) = .next [.fr m, .fr (pairsD (rowsL.take 52))] := by kernel_rfl
theorem w_20 (m : D) : evSF (evcF tb 300 139) 300 [.fr m, .fr (pairsD (rowsL.take 52))] (wt 20) = .next [.fr m, .fr (pairsD (rowsL.take 55))] := by kernel_rfl
theorem w_21 (m : D) : evSF (evcF tb 300 139) 300 [.fr m, .fr (pairsD (rowsL.take 55))] (wt 21) = .next [.fr m, .fr (pairsD (rowsL.take 58))] := by kernel_rfl
theorem w_22 (m : D) : evSF (evcF tb 300 139) 300 [.fr m, .fr (pairsD (rowsL.take 58))] (wt 22) = .next [.fr m, .fr (pairsD (rowsL.take 61))] := by kernel_rfl
theorem w_23 (m : D) : evSF (evcF tb 300 139) 300 [.fr m, .fr (pairsD (rowsL.take 61))] (wt 23) = .next [.fr m, .fr (pairsD (rowsL.take 64))] := by kernel_rfl
theorem w_24 (m : D) : evSF (evcF tb 300 139) 300 [.fr m, .fr (pairsD (rowsL.take 64))] (wt 24) = .next [.fr m, .fr (pairsD (rowsL.take 67))] := by kernel_rfl
theorem w_25 (m : D) : evSF (evcF tb 300 139) 300 [.fr m, .fr (pairsD (rowsL.take 67))] (wt 25) = .next [.fr m, .fr (pairsD (rowsL.take 70))] := by kernel_rfl
theorem w_len : bfR .len [pairsD (rowsL.take 70)] = .ok (.int 70) := by kernel_rfl
theorem w_all : rowsL.take 70 = rowsL := by kernel_rfl
theorem rows_len : rowsL.length = 70 := by kernel_rfl
theorem wrong_ok (m : Int) (hm : 0 ≤ m) : ∃ q ∈ rowsL, evc tb 140 1170 [.int m] = .ok (.tuple [.str q.1, .str q.2]) := by
  have hi : m.toNat % 70 < rowsL.length := by rw [rows_len]; exact Nat.mod_lt _ (by decide)
  refine ⟨rowsL[m.toNat % 70], List.getElem_mem hi, ?_⟩
  rw [evc_b bL rfl rfl]
  show outR (evSs (evc tb 139) [.fr (.int m), .no] (wbod 0)) = _
  rw [show wbod 0 = .cons (wt 0) (wbod 1) from rfl, ss_by (s_by (w_0 (.int m)))]
  rw [show wbod 1 = .cons (wt 1) (wbod 2) from rfl, ss_by (s_by (w_1 (.int m)))]
  rw [show wbod 2 = .cons (wt 2) (wbod 3) from rfl, ss_by (s_by (w_2 (.int m)))]
  rw [show wbod 3 = .cons (wt 3) (wbod 4) from rfl, ss_by (s_by (w_3 (.int m)))]
  rw [show wbod 4 = .cons (wt 4) (wbod 5) from rfl, ss_by (s_by (w_4 (.int m)))]
  rw [show wbod 5 = .cons (wt 5) (wbod 6) from rfl, ss_by (s_by (w_5 (.int m)))]
  rw [show wbod 6 = .cons (wt 6) (wbod 7) from rfl, ss_by (s_by (w_6 (.int m)))]
  rw [show wbod 7 = .cons (wt 7) (wbod 8) from rfl, ss_by (s_by (w_7 (.int m)))]
  rw [show wbod 8 = .cons (wt 8) (wbod 9) from rfl, ss_by (s_by (w_8 (.int m)))]
  rw [show wbod 9 = .cons (wt 9) (wbod 10) from rfl, ss_by (s_by (w_9 (.int m)))]
  rw [show wbod 10 = .cons (wt 10) (wbod 11) from rfl, ss_by (s_by (w_10 (.int m)))]
  rw [show wbod 11 = .cons (wt 11) (wbod 12) from rfl, ss_by (s_by (w_11 (.int m)))]
  rw [show wbod 12 = .cons (wt 12) (wbod 13) from rfl, ss_by (s_by (w_12 (.int m)))]
  rw [show wbod 13 = .cons (wt 13) (wbod 14) from rfl, ss_by (s_by (w_13 (.int m)))]
  rw [show wbod 14 = .cons (wt 14) (wbod 15) from rfl, ss_by (s_by (w_14 (.int m)))]
  rw [show wbod 15 = .cons (wt 15) (wbod 16) from rfl, ss_by (s_by (w_15 (.int m)))]
  rw [show wbod 16 = .cons (wt 16) (wbod 17) from rfl, ss_by (s_by (w_16 (.int m)))]
  rw [show wbod 17 = .cons (wt 17) (wbod 18) from rfl, ss_by (s_by (w_17 (.int m)))]
  rw [show wbod 18 = .cons (wt 18) (wbod 19) from rfl, ss_by (s_by (w_18 (.int m)))]
  rw [show wbod 19 = .cons (wt 19) (wbod 20) from rfl, ss_by (s_by (w_19 (.int m)))]
  rw [show wbod 20 = .cons (wt 20) (wbod 21) from rfl, ss_by (s_by (w_20 (.int m)))]
  rw [show wbod 21 = .cons (wt 21) (wbod 22) from rfl, ss_by (s_by (w_21 (.int m)))]
  rw [show wbod 22 = .cons (wt 22) (wbod 23) from rfl, ss_by (s_by (w_22 (.int m)))]
  rw [show wbod 23 = .cons (wt 23) (wbod 24) from rfl, ss_by (s_by (w_23 (.int m)))]
  rw [show wbod 24 = .cons (wt 24) (wbod 25) from rfl, ss_by (s_by (w_24 (.int m)))]
  rw [show wbod 25 = .cons (wt 25) (wbod 26) from rfl, ss_by (s_by (w_25 (.int m)))]
  rw [show wbod 26 = .cons (.ret [] (.ix (.v 1) (.bin .mod (.v 0) (.bf .len (.cons (.v 1) .nil))))) .nil from rfl]
  have e1 : ev (evc tb 139) [.fr (.int m), .fr (pairsD (rowsL.take 70))] (.ix (.v 1) (.bin .mod (.v 0) (.bf .len (.cons (.v 1) .nil)))) = .ok (.tuple [.str (rowsL[m.toNat % 70]).1, .str (rowsL[m.toNat % 70]).2]) := by
    simp only [ev, evs]
    have g0 : getV [.fr (.int m), .fr (pairsD (rowsL.take 70))] 0 = .ok (.int m) := rfl
    have g1 : getV [.fr (.int m), .fr (pairsD (rowsL.take 70))] 1 = .ok (pairsD (rowsL.take 70)) := rfl
    rw [g0, g1]
    simp only [R.bind]
    rw [w_len]
    have e : m.fmod 70 = ((m.toNat % 70 : Nat) : Int) := by
      rw [Int.fmod_eq_emod_of_nonneg _ (by decide)]
      omega
    simp only [opR]
    rw [if_neg (by decide), e, w_all]
    exact ix_pairs rowsL _ hi
  simp only [evSs, evS, see]
  rw [e1]
  rfl
theorem a_ok (ns : List Int) (k : Nat) (o a c f g h : Sl) : evS (evc tb 140) [.fr (.list (ns.map PyData.int)), o, a, .fr (.int k), c, f, g, h] (.asg 4 [] (.call 1001 (.cons (.call 1000 (.cons (.v 0) (.cons (.v 3) .nil))) (.cons (.v 3) .nil)))) = .next [.fr (.list (ns.map PyData.int)), o, a, .fr (.int k), .fr (.int (drawF (cellF ns k) k)), f, g, h] := by
  simp only [evS, see, ev, evs]
  have g0 : getV [.fr (.list (ns.map PyData.int)), o, a, .fr (.int k), c, f, g, h] 0 = .ok (.list (ns.map PyData.int)) := rfl
  have g3 : getV [.fr (.list (ns.map PyData.int)), o, a, .fr (.int k), c, f, g, h] 3 = .ok (.int k) := rfl
  rw [g0, g3]
  simp only [R.bind]
  rw [cell_ok (T := tb) 139 ns k]
  simp only [R.bind]
  rw [drawn_ok (T := tb) 139 (cellF ns k) k]
  rfl
theorem b_ok {m : Int} {r w : Str} (X : D) (o a b f g h : Sl) (e : evc tb 140 1170 [.int m] = .ok (.tuple [.str r, .str w])) : evS (evc tb 140) [.fr X, o, a, b, .fr (.int m), f, g, h] (.asgT [6, 7] [] (.call 1170 (.cons (.v 4) .nil))) = .next [.fr X, o, a, b, .fr (.int m), f, .fr (.str r), .fr (.str w)] := by
  simp only [evS, see, ev, evs]
  have g0 : getV [.fr X, o, a, b, .fr (.int m), f, g, h] 4 = .ok (.int m) := rfl
  rw [g0]
  simp only [R.bind]
  rw [e]
  rfl
theorem g_ok {m : Int} (hm : 0 ≤ m) (X : D) (o a b g h : Sl) : ∃ q ∈ goodL, evS (evc tb 140) [.fr X, o, a, b, .fr (.int m), .fr (pairsD goodL), g, h] (.asgT [6, 7] [] (.ix (.v 5) (.bin .mod (.bin .fdiv (.v 4) (.bin .pow (.k (.int 2)) (.k (.int 20)))) (.k (.int 6))))) = .next [.fr X, o, a, b, .fr (.int m), .fr (pairsD goodL), .fr (.str q.1), .fr (.str q.2)] := by
  have gl : goodL.length = 6 := by kernel_rfl
  have hi : (m / 1048576).toNat % 6 < goodL.length := by rw [gl]; exact Nat.mod_lt _ (by decide)
  refine ⟨goodL[(m / 1048576).toNat % 6], List.getElem_mem hi, ?_⟩
  simp only [evS, see, ev]
  have g0 : getV [.fr X, o, a, b, .fr (.int m), .fr (pairsD goodL), g, h] 4 = .ok (.int m) := rfl
  have g1 : getV [.fr X, o, a, b, .fr (.int m), .fr (pairsD goodL), g, h] 5 = .ok (pairsD goodL) := rfl
  rw [g0, g1]
  simp only [R.bind]
  have p : opR .pow (.int 2) (.int 20) = .ok (.int 1048576) := by kernel_rfl
  rw [p]
  simp only [R.bind]
  have d1 : opR .fdiv (.int m) (.int 1048576) = .ok (.int (m.fdiv 1048576)) := by simp only [opR]; rw [if_neg (by decide)]
  rw [d1]
  simp only [R.bind]
  have d2 : opR .mod (.int (m.fdiv 1048576)) (.int 6) = .ok (.int (((m / 1048576).toNat % 6 : Nat) : Int)) := by
    simp only [opR]
    rw [if_neg (by decide), Int.fdiv_eq_ediv_of_nonneg _ (by decide), Int.fmod_eq_emod_of_nonneg _ (by decide)]
    congr 2
    omega
  rw [d2]
  simp only [R.bind]
  rw [ix_pairs goodL _ hi]
  rfl
theorem law_true : ∀ ns : List Int, ns.length ≤ 63 → evc tb (140 + 1) 1171 [.list (ns.map PyData.int)] = .ok (.bool true) := by
  intro ns hns
  rw [evc_b bL rfl rfl]
  show outR (evSs (evc tb 140) (startE 8 [.list (ns.map PyData.int)]) (bod 0)) = _
  rw [show bod 0 = .cons (st 0) (bod 1) from rfl, ss_by (s_by (c_0 _)), show bod 1 = .cons (st 1) (bod 2) from rfl, ss_by (s_by (c_1 _)), show bod 2 = .cons (st 2) (bod 3) from rfl, ss_by (s_by (c_2 _))]
  rw [show bod 3 = .cons (.for_ [] (.one 3) (.rng1 (.bf .max (.cons (.k (.int 1)) (.cons (.bf .min (.cons (.k (.int 6)) (.cons (.bf .len (.cons (.v 0) .nil)) .nil))) .nil)))) forB) (.cons (.ret [] (.k (.bool true))) .nil) from rfl]
  walk_at "cw"
  rw [rng_ok ⟨by omega, by omega, by omega, by omega, by omega⟩]
  walk_at "cw"
  refine for_post (Q := fun o => outR o = .ok (.bool true)) (fun _ e => ∃ a b c f g h, e = [.fr (.list (ns.map PyData.int)), .ob false 4 s5, a, b, c, f, g, h]) ⟨_, _, _, _, _, _, rfl⟩ ?_ ?_
  · rintro k d e hd ⟨a, b, c, f, g, h, rfl⟩
    obtain ⟨hk, rfl⟩ := rngL_get hd
    refine ⟨_, rfl, ?_⟩
    rw [Int.zero_add]
    show Nx _ (evSs (evc tb 140) [.fr (.list (ns.map PyData.int)), .ob false 4 s5, a, .fr (.int k), c, f, g, h] (fbod 0))
    rw [show fbod 0 = .cons (.asg 4 [] (.call 1001 (.cons (.call 1000 (.cons (.v 0) (.cons (.v 3) .nil))) (.cons (.v 3) .nil)))) (fbod 1) from rfl, ss_by (a_ok ns k _ _ _ _ _ _)]
    obtain ⟨q, hq, eq⟩ := wrong_ok (drawF (cellF ns k) k) (drawF_nn _ _)
    rw [show fbod 1 = .cons (.asgT [6, 7] [] (.call 1170 (.cons (.v 4) .nil))) (fbod 2) from rfl, ss_by (b_ok _ _ _ _ _ _ _ eq)]
    rw [show fbod 2 = .cons (ft 2) (fbod 3) from rfl, ss_by (s_by (map_get (c_rows _ _ _ _ _) q hq))]
    rw [show fbod 3 = .cons (ft 3) (fbod 4) from rfl, ss_by (s_by (c_tab _ _ _ _ _ _ _))]
    rw [show fbod 4 = .cons (ft 4) (fbod 5) from rfl, ss_by (s_by (c_tab2 _ _ _ _ _ _))]
    obtain ⟨q2, hq2, eq2⟩ := g_ok (drawF_nn (cellF ns k) k) (.list (ns.map PyData.int)) (.ob false 4 s5) a (.fr (.int k)) (.fr (.str q.1)) (.fr (.str q.2))
    rw [show fbod 5 = .cons (.asgT [6, 7] [] (.ix (.v 5) (.bin .mod (.bin .fdiv (.v 4) (.bin .pow (.k (.int 2)) (.k (.int 20)))) (.k (.int 6))))) (fbod 6) from rfl, ss_by eq2]
    rw [show fbod 6 = .cons (ft 6) (fbod 7) from rfl, ss_by (s_by (map_get (c_good _ _ _ _ _) q2 hq2))]
    rw [show fbod 7 = .nil from rfl]
    simp only [evSs]
    exact ⟨_, .inl rfl, _, _, _, _, _, _, rfl⟩
  · rintro e ⟨a, b, c, f, g, h, rfl⟩
    walk_at "cw"

end K91
open PySem PySem.W PySem.Calls PyProof.Rows
theorem PySem.Challenge.cw_closewright_k91_desk_refused_holds : PySem.Challenge.rw_closewright_k91_desk_refused.Holds := by
  w_on; o_law
  refine HandSHeadRun.head_any (r := OpenLaw.row PySem.Challenge.rw_closewright_k91_desk_refused) (q := view (OpenLaw.row PySem.Challenge.rw_closewright_k91_desk_refused).prog [158]) (H := K91.hk) (ob := K91.ob) (M := 20000) (loose := K91.names) (d := HandSHeadRun.topDef (OpenLaw.row PySem.Challenge.rw_closewright_k91_desk_refused).prog 158) (kwd := []) K91.ob_eq
    (by kernel_rfl) (fun s => by kernel_rfl) K91.run (by kernel_rfl) (by kernel_rfl) (by kernel_rfl) (by rfl) (by first | assumption | decide +kernel) (by decide +kernel) ⟨rfl, rfl, rfl, rfl, rfl, by decide +kernel⟩ ?hw ?hc
  case hw => w_witness2
  case hc =>
    refine Cw.walk_fin (l := PySem.Challenge.rw_closewright_k91_desk_refused) (n := 63) (k := 140 + 1 + 46) (x := "script") rfl (by decide) (by kernel_rfl) ⟨rfl, by decide, by decide⟩ (by kernel_rfl) ?F
    intro w mg fa h Y G hmg0
    obtain ⟨K, KX, c⟩ := Y
    have hmg : mg ("law" : PySem.Str) = some (.ref fa) := by
      have e : (HandSHeadRun.topDef (OpenLaw.row PySem.Challenge.rw_closewright_k91_desk_refused).prog 158).name = ("law" : PySem.Str) := by kernel_rfl
      rw [← e]
      exact hmg0
    exact Cw.txt_law (t := K91.txt) KX G hmg rfl K91.look K91.lookW K91.lookM c.t c.more (by decide +kernel) (by decide +kernel) (by decide +kernel) K91.law_true
