import PyProof.Rows.All
import Wide.All
import OpenK.AllK
import Wide.FinOn
import HandS.ForMost
import HandS.Zip
import HandS.TupAny
import HandS.TupMul
import HandS.TupLe
import HandS.DictComp
import HandS.DictTup
import HandS.Deep
import HandS.Conv
import HandS.SortKw
import HandS.Defaults
import HandS.Lambda
import HandS.Style
import HandS.IsInst
import HandS.Head0
import HandS.Head1
import HandS.Head2
import HandS.HeadEnd
import HandS.HeadHook1
import HandS.HeadHook2
import KE.KTupSum
import KE.KDictSum
import HandS.TupSets
import HandS.Strs
import KE.DataCmp
import KE.GoesEnum
import KE.KDictPairs
import KE.KDictKeyed
import KE.GoesZip
import KE.KDictZip
import HandS.EndTab
import HandS.HeadWalk
import KE.SortKeyHeap
import KE.DataMinKey
import KE.KNestM
import HandS.SetBool
import HandS.SetFor
import HandS.Remove
import KE.KUnpack
import KE.KItemsList
import HandS.TryOnly
import HandS.Replace
import PyProof.StrLawsChain
import PyProof.StrLawsTight
import HandS.WordsExc
import HandS.ExcIs
import PySem.Challenge.RW_standingpowers_k01_numbers_names_and_spa
import PySem.Str
set_option autoImplicit true
set_option Elab.async false
set_option linter.all false
set_option maxRecDepth 100000
set_option maxHeartbeats 0
namespace PV
open PySem

inductive D where
  | non
  | bl (b : Bool)
  | int (i : Int)
  | str (s : Str)
  | tup (xs : List D)
  | lst (xs : List D)
  | dic (t : Bool) (ks vs : List D)
  | ins (c : Str) (fs : List Str) (xs : List D)
  | scr (ns : List Int)
  | ftup (xs : List D)

def szL : Nat := 16777216

mutual
def D.eqv : D → D → Bool
  | .non, .non => true
  | .bl a, .bl b => a == b
  | .bl a, .int j => (if a then 1 else 0) == j
  | .int i, .bl b => i == (if b then 1 else 0)
  | .int i, .int j => i == j
  | .str x, .str y => x == y
  | .tup xs, .tup ys => D.eqvs xs ys
  | .ftup xs, .ftup ys => D.eqvs xs ys
  | .ftup xs, .tup ys => D.eqvs xs ys
  | .tup xs, .ftup ys => D.eqvs xs ys
  | .lst xs, .lst ys => D.eqvs xs ys
  | _, _ => false
def D.eqvs : List D → List D → Bool
  | [], [] => true
  | x :: xs, y :: ys => D.eqv x y && D.eqvs xs ys
  | _, _ => false
end
mutual
def D.plain : Nat → D → Bool
  | _, .non => true
  | _, .bl _ => true
  | _, .int _ => true
  | _, .str x => x.cps.all (· < 0x110000)
  | n + 1, .tup xs => D.plains n xs
  | n + 1, .ftup xs => D.plains n xs
  | n + 1, .lst xs => D.plains n xs
  | _, _ => false
def D.plains : Nat → List D → Bool
  | _, [] => true
  | n, x :: xs => D.plain n x && D.plains n xs
end
mutual
def D.imm : D → Bool
  | .non => true
  | .bl _ => true
  | .int _ => true
  | .str _ => true
  | .tup xs => D.imms xs
  | .ftup xs => D.imms xs
  | _ => false
def D.imms : List D → Bool
  | [] => true
  | x :: xs => D.imm x && D.imms xs
end
inductive DSlot where
  | no
  | val (d : D)
  | own (d : D)
  | slf (d : D)
abbrev DEnv := List DSlot
inductive DRes where
  | nx (e : DEnv)
  | ret (d : D)
  | bk (e : DEnv)
  | ct (e : DEnv)
abbrev Ex := DEnv → Option D
abbrev Tx := DEnv → Option Bool
abbrev Sx := DEnv → Option DRes
abbrev Ax := DEnv → Option (List D)
abbrev Gx := D → DEnv → Option DEnv
abbrev Fn := List D → Option D

def var (i : Nat) : Ex := fun e => match e[i]? with
  | some (.val d) => some d
  | _ => none
def ovar (i : Nat) : Ex := fun e => match e[i]? with
  | some (.own d) => some d
  | _ => none
def cst (d : D) : Ex := fun _ => some d
def imm (a : Ex) : Ex := fun e => (a e).bind fun d => if d.imm then some d else none
def op1 (f : D → Option D) (a : Ex) : Ex := fun e => (a e).bind f
def op2 (f : D → D → Option D) (a b : Ex) : Ex := fun e => (a e).bind fun x => (b e).bind fun y => f x y
def aN : Ax := fun _ => some []
def aC (a : Ex) (r : Ax) : Ax := fun e => (a e).bind fun x => (r e).bind fun xs => some (x :: xs)
def tupE (a : Ax) : Ex := fun e => (a e).bind fun xs => if xs.length ≤ szL then some (.tup xs) else none
def lstE (a : Ax) : Ex := fun e => (a e).bind fun xs => if xs.length ≤ szL then some (.lst xs) else none
def cal (f : Fn) (a : Ax) : Ex := fun e => (a e).bind f
def ife (t : Tx) (a b : Ex) : Ex := fun e => (t e).bind fun c => if c then a e else b e

def addD : D → D → Option D
  | .int a, .int b => some (.int (a + b))
  | .str a, .str b => if a.length + b.length ≤ szL then some (.str (a ++ b)) else none
  | .tup a, .tup b => if a.length + b.length ≤ szL then some (.tup (a ++ b)) else none
  | .ftup a, .ftup b => if a.length + b.length ≤ szL then some (if a.isEmpty then .ftup b else if b.isEmpty then .ftup a else .tup (a ++ b)) else none
  | .ftup a, .tup b => if a.length + b.length ≤ szL then some (if !a.isEmpty && b.isEmpty then .ftup a else .tup (a ++ b)) else none
  | .tup a, .ftup b => if a.length + b.length ≤ szL then some (if a.isEmpty then .ftup b else .tup (a ++ b)) else none
  | .lst a, .lst b => if a.length + b.length ≤ szL then some (.lst (a ++ b)) else none
  | _, _ => none
def subD : D → D → Option D
  | .int a, .int b => some (.int (a - b))
  | _, _ => none
def b64 (a : Int) : Bool := decide (a.natAbs.log2 < 64)
def mulD : D → D → Option D
  | .int a, .int b => if b64 a || b64 b then some (.int (a * b)) else none
  | .tup a, .int b => if !a.isEmpty && decide (1 ≤ b) && decide (b ≤ 1000) && decide (a.length ≤ 1000) then some (.tup ((List.replicate b.toNat a).flatten)) else none
  | _, _ => none
def modD : D → D → Option D
  | .int a, .int b => if 0 < b then some (.int (a % b)) else none
  | _, _ => none
def divD : D → D → Option D
  | .int a, .int b => if decide (0 < b) && decide (b < 1073741824) then some (.int (a / b)) else none
  | _, _ => none
def powD : D → D → Option D
  | .int a, .int b => if decide (0 ≤ b) && decide (b ≤ 1000000) && decide (a.natAbs < 2 ^ 64) then some (.int (a ^ b.toNat)) else none
  | _, _ => none
def eqD (a b : D) : Option Bool := if a.plain 60 && b.plain 60 then some (D.eqv a b) else none
def ltD : D → D → Option Bool
  | .int a, .int b => some (decide (a < b))
  | _, _ => none
def leD : D → D → Option Bool
  | .int a, .int b => some (decide (a ≤ b))
  | _, _ => none
def cmp (f : D → D → Option Bool) (a b : Ex) : Tx := fun e => (a e).bind fun x => (b e).bind fun y => f x y
def flip (f : D → D → Option Bool) : D → D → Option Bool := fun a b => f b a
def chn (f g : D → D → Option Bool) (a b c : Ex) : Tx := fun e => (a e).bind fun x => (b e).bind fun y => (f x y).bind fun r => if r then (c e).bind fun z => g y z else some false
def boo (t : Tx) : Ex := fun e => (t e).map D.bl
def tes (a : Ex) : Tx := fun e => (a e).bind fun d => match d with
  | .bl b => some b
  | _ => none
def andT (a b : Tx) : Tx := fun e => (a e).bind fun c => if c then b e else some false
def orT (a b : Tx) : Tx := fun e => (a e).bind fun c => if c then some true else b e
def notT (a : Tx) : Tx := fun e => (a e).map not

def key1 : D → Bool
  | .int _ => true
  | .str _ => true
  | _ => false
def keyD : Bool → D → Bool
  | false, k => key1 k
  | true, .tup xs => xs.all key1
  | true, _ => false
def dget : List D → List D → D → Option D
  | k :: ks, v :: vs, x => if D.eqv k x then some v else dget ks vs x
  | _, _, _ => none
def ixN (n : Nat) (i : Int) : Option Nat := if 0 ≤ i then (if i < n then some i.toNat else none) else if -(n : Int) ≤ i then some (i + n).toNat else none
def getD : D → D → Option D
  | .lst xs, .int i => (ixN xs.length i).bind fun k => xs[k]?
  | .tup xs, .int i => (ixN xs.length i).bind fun k => xs[k]?
  | .ftup xs, .int i => (ixN xs.length i).bind fun k => xs[k]?
  | .scr ns, .int i => (ixN ns.length i).bind fun k => (ns[k]?).map D.int
  | .str s, .int i => if s.length ≤ szL then (ixN s.length i).bind fun k => (s.cps[k]?).map fun c => .str ⟨#[c]⟩ else none
  | _, _ => none
def dupd : List D → List D → D → D → List D
  | k :: ks, v :: vs, x, y => (if D.eqv k x then y else v) :: dupd ks vs x y
  | _, _, _, _ => []
def dput (ks vs : List D) (x y : D) : List D × List D := if (dget ks vs x).isSome then (ks, dupd ks vs x y) else (ks ++ [x], vs ++ [y])
def lenD : D → Option D
  | .scr ns => some (.int ns.length)
  | .lst xs => some (.int xs.length)
  | .tup xs => some (.int xs.length)
  | .ftup xs => some (.int xs.length)
  | .str s => if s.length ≤ szL then some (.int s.length) else none
  | _ => none
def intD : D → Option D
  | .int i => some (.int i)
  | .bl b => some (.int (if b then 1 else 0))
  | _ => none

def sq (a b : Sx) : Sx := fun e => (a e).bind fun r => match r with
  | .nx e' => b e'
  | r => some r
def skip : Sx := fun e => some (.nx e)
def setE (i : Nat) (a : Ex) : Sx := fun e => (a e).bind fun d => some (.nx (e.set i (.val d)))
def newE (i : Nat) (a : Ex) : Sx := fun e => (a e).bind fun d => some (.nx (e.set i (.own d)))
def rt (a : Ex) : Sx := fun e => (a e).bind fun d => some (.ret d)
def ifS (t : Tx) (a b : Sx) : Sx := fun e => (t e).bind fun c => if c then a e else b e
def brk : Sx := fun e => some (.bk e)
def cnt : Sx := fun e => some (.ct e)
inductive Tg where
  | n (i : Nat)
  | t (l : List Tg)
mutual
def gD : Tg → Gx
  | .n i => fun d e => some (e.set i (.val d))
  | .t l => fun d e => match d with
    | .tup xs => gDs l xs e
    | _ => none
def gDs : List Tg → List D → DEnv → Option DEnv
  | [] => fun ds e => match ds with
    | [] => some e
    | _ :: _ => none
  | g :: gs => fun ds e => match ds with
    | d :: ds => (gD g d e).bind fun e' => gDs gs ds e'
    | [] => none
end
mutual
def Tg.slots : Tg → List Nat
  | .n i => [i]
  | .t l => Tg.slotss l
def Tg.slotss : List Tg → List Nat
  | [] => []
  | g :: gs => g.slots ++ Tg.slotss gs
end
def asg (g : Tg) (a : Ex) : Sx := fun e => (a e).bind fun d => (gD g d e).bind fun e' => some (.nx e')
def frz (j : Nat) (b : Sx) : Sx := fun e => match e[j]? with
  | some (.own d) => b (e.set j (.val d))
  | _ => none
def mov (i j : Nat) : Sx := fun e => match e[j]? with
  | some (.own d) => some (.nx ((e.set j .no).set i (.val d)))
  | _ => none
def movO (i j : Nat) : Sx := fun e => match e[j]? with
  | some (.own d) => some (.nx ((e.set j .no).set i (.own d)))
  | _ => none
def loop (g : Gx) (b : Sx) : List D → DEnv → Option DRes
  | [], e => some (.nx e)
  | x :: xs, e => (g x e).bind fun e1 => (b e1).bind fun r => match r with
    | .nx e2 => loop g b xs e2
    | .ct e2 => loop g b xs e2
    | .bk e2 => some (.nx e2)
    | .ret d => some (.ret d)
def forE (it : Ax) (g : Tg) (b : Sx) : Sx := fun e => (it e).bind fun xs => loop (gD g) b xs e
def iLst (a : Ex) : Ax := fun e => (a e).bind fun d => match d with
  | .lst xs => some xs
  | _ => none
def iTp (a : Ex) : Ax := fun e => (a e).bind fun d => match d with
  | .tup xs => some xs
  | .ftup xs => some xs
  | _ => none
def rngL : List D → Option (List D)
  | [.int n] => if decide (-(2 ^ 62) ≤ n ∧ n < 2 ^ 62) then some ((List.range n.toNat).map fun (k : Nat) => .int (k : Int)) else none
  | [.int m, .int n] => if decide (-(2 ^ 62) ≤ m ∧ m < 2 ^ 62 ∧ -(2 ^ 62) ≤ n ∧ n < 2 ^ 62) then some ((List.range (n - m).toNat).map fun (k : Nat) => .int (m + (k : Int))) else none
  | _ => none
def one1 (a : Ax) : Ax := fun e => (a e).bind fun l => match l with
  | [x] => some [x]
  | _ => none
def two2 (a : Ax) : Ax := fun e => (a e).bind fun l => match l with
  | [x, y] => some [x, y]
  | _ => none
def iRng (a : Ax) : Ax := fun e => (a e).bind rngL
def wip (e : DEnv) : List Nat → DEnv
  | [] => e
  | v :: vs => (wip e vs).set v .no
def noOwn (e : DEnv) (ws : List Nat) : Bool := ws.all fun i => match (e[i]? : Option DSlot) with
  | some DSlot.no => true
  | some (DSlot.val _) => true
  | _ => false
def lcRun (g : Gx) (t : Tx) (a : Ex) (e0 : DEnv) : List D → Option (List D)
  | [] => some []
  | x :: xs => (g x e0).bind fun e1 => (t e1).bind fun c => if c then (a e1).bind fun y => (lcRun g t a e0 xs).bind fun ys => some (y :: ys) else lcRun g t a e0 xs
def lcE (it : Ax) (g : Tg) (t : Tx) (a : Ex) (ws : List Nat) : Ex := fun e => (it e).bind fun xs => if xs.length ≤ szL ∧ noOwn e ws = true then (lcRun (gD g) t a (wip e ws) xs).bind fun ys => some (.lst ys) else none
def yes : Tx := fun _ => some true
def fnc (m n : Nat) (b : Sx) : Fn := fun ds => if ds.length = m then (b (ds.map DSlot.val ++ List.replicate (n - m) DSlot.no)).bind fun r => match r with
  | .ret d => some d
  | .nx _ => some .non
  | _ => none
  else none
def ini (c : Str) (m n : Nat) (b : Sx) : Fn := fun ds => if ds.length + 1 = m then (b (DSlot.slf (.ins c [] []) :: (ds.map DSlot.val ++ List.replicate (n - m) DSlot.no))).bind fun r => match r with
  | .nx e => match (e[0]? : Option DSlot) with
    | some (DSlot.slf (D.ins c' fs xs)) => if c' = c then some (.ins c' fs xs) else none
    | _ => none
  | _ => none
  else none
def metD (l : List (Str × Fn)) (m : Str) (ds : List D) : D → Option D
  | .ins c fs xs => if m ∈ fs then none else (l.lookup c).bind fun f => f (.ins c fs xs :: ds)
  | _ => none
def met (l : List (Str × Fn)) (m : Str) (o : Ex) (a : Ax) : Ex := fun e => (o e).bind fun d => (a e).bind fun ds => metD l m ds d
def attr (cs : List Str) (f : Str) : D → Option D
  | .ins c fs xs => if c ∈ cs then (fs.zip xs).lookup f else none
  | _ => none
def fld (cs : List Str) (f : Str) (a : Ex) : Ex := op1 (attr cs f) a
def putFD (f : Str) (d : D) : List Str → List D → List Str × List D
  | g :: gs, x :: xs => if g = f then (g :: gs, d :: xs) else (g :: (putFD f d gs xs).1, x :: (putFD f d gs xs).2)
  | _, _ => ([f], [d])
def setF (i : Nat) (c f : Str) (a : Ex) : Sx := fun e => (a e).bind fun d => match e[i]? with
  | some (.slf (.ins c' fs xs)) => if c' = c ∧ fs.length < 1000 ∧ fs.length = xs.length then some (.nx (e.set i (.slf (.ins c' (putFD f d fs xs).1 (putFD f d fs xs).2)))) else none
  | _ => none
end PV
namespace PV
open PySem
def inL : D → D → Option Bool
  | x, .lst ys => if x.plain 60 && D.plains 59 ys then some (ys.any fun z => D.eqv z x) else none
  | _, _ => none
def inS : D → D → Option Bool
  | .str x, .str y => match x.cps.toList with
    | [c] => some (decide (c ∈ y.cps.toList))
    | _ => none
  | _, _ => none
def neg (f : D → D → Option Bool) : D → D → Option Bool := fun a b => (f a b).map not
def prt (a : Ex) : DEnv → Option (Option Int) := fun e => (a e).bind fun d => match d with
  | .int i => some (some i)
  | _ => none
def prN : DEnv → Option (Option Int) := fun _ => some none
def six (n d : Nat) : Option Int → Nat
  | none => d
  | some v => if v < 0 then (v + (n : Int)).toNat else min v.toNat n
def cut {α : Type} (xs : List α) (lo hi : Option Int) : List α := (xs.drop (six xs.length 0 lo)).take (six xs.length xs.length hi - six xs.length 0 lo)
def slcT (lo hi : Option Int) : D → Option D
  | .tup xs => some (.tup (cut xs lo hi))
  | .ftup xs => some (if six xs.length 0 lo = 0 ∧ six xs.length xs.length hi = xs.length then .ftup xs else .tup (cut xs lo hi))
  | .str s => if s.length ≤ szL then some (.str ⟨(cut s.cps.toList lo hi).toArray⟩) else none
  | _ => none
def slE (f : Option Int → Option Int → D → Option D) (a : Ex) (lo hi : DEnv → Option (Option Int)) : Ex := fun e => (a e).bind fun d => (lo e).bind fun l => (hi e).bind fun h => f l h d
def revL : D → Option D
  | .lst xs => some (.lst xs.reverse)
  | _ => none
def f1 (f : D → Option D) : Fn := fun ds => match ds with
  | [d] => f d
  | _ => none
def intsOf : List D → Option (List Int)
  | [] => some []
  | .int i :: r => (intsOf r).map (i :: ·)
  | _ :: _ => none
def blsOf : List D → Option (List Bool)
  | [] => some []
  | .bl i :: r => (blsOf r).map (i :: ·)
  | _ :: _ => none
def sumL : D → Option D
  | .lst xs => (intsOf xs).map fun ns => .int ns.sum
  | _ => none
def allL : D → Option D
  | .lst xs => (blsOf xs).map fun bs => .bl (bs.all id)
  | _ => none
def anyL : D → Option D
  | .lst xs => (blsOf xs).map fun bs => .bl (bs.any id)
  | _ => none
end PV
namespace PV
open PySem
def andV (a b : Ex) : Ex := fun e => (a e).bind fun d => match d with
  | .bl true => b e
  | .bl false => some (.bl false)
  | _ => none
def orV (a b : Ex) : Ex := fun e => (a e).bind fun d => match d with
  | .bl true => some (.bl true)
  | .bl false => b e
  | _ => none
def notV (a : Ex) : Ex := fun e => (a e).bind fun d => match d with
  | .bl b => some (.bl (!b))
  | _ => none
def isNonD : D → Bool
  | .non => true
  | _ => false
def isN (a : Ex) : Tx := fun e => (a e).map isNonD
end PV
namespace PV
open PySem
def app (i : Nat) (a : Ex) : Sx := fun e => (a e).bind fun d => match (e[i]? : Option DSlot) with
  | some (DSlot.own (D.lst xs)) => if xs.length < szL then some (.nx (e.set i (.own (.lst (xs ++ [d]))))) else none
  | _ => none
def ext (i : Nat) (a : Ex) : Sx := fun e => (a e).bind fun d => match (e[i]? : Option DSlot), d with
  | some (DSlot.own (D.lst xs)), .lst ys => if xs.length + ys.length ≤ szL then some (.nx (e.set i (.own (.lst (xs ++ ys))))) else none
  | _, _ => none
def stL (i : Nat) (k a : Ex) : Sx := fun e => (a e).bind fun d => (k e).bind fun kd => match (e[i]? : Option DSlot), kd with
  | some (DSlot.own (D.lst xs)), .int n => (ixN xs.length n).bind fun j => some (.nx (e.set i (.own (.lst (xs.set j d)))))
  | _, _ => none
def stK (i : Nat) (k a : Ex) : Sx := fun e => (a e).bind fun d => (k e).bind fun kd => match (e[i]? : Option DSlot) with
  | some (DSlot.own (D.dic t ks vs)) => if keyD t kd ∧ ks.length < szL ∧ ks.length = vs.length then some (.nx (e.set i (.own (.dic t (dput ks vs kd d).1 (dput ks vs kd d).2)))) else none
  | _ => none
def op3 (f : D → D → D → Option D) (a b c : Ex) : Ex := fun e => (a e).bind fun x => (b e).bind fun y => (c e).bind fun z => f x y z
end PV

namespace PV
open PySem PySem.Spec PyProof.Rows L2

def kD : Key → D
  | .inl i => .int i
  | .inr x => .str x
section
variable (mg : Str → Option Value)
mutual
inductive Rep (A : Addr → Prop) (H : Hp) : V → D → Prop
  | non : Rep A H .non .non
  | bl (b : Bool) : Rep A H (.bl b) (.bl b)
  | int (i : Int) : Rep A H (.int i) (.int i)
  | str (x : Str) : Rep A H (.str x) (.str x)
  | tup {a : Addr} {xs : List V} {ds : List D} : H a = some (.tup xs) → Reps A H xs ds → Rep A H (.ref a) (.tup ds)
  | lst {a : Addr} {xs : List V} {ds : List D} : A a → H a = some (.lst xs) → Reps A H xs ds → Rep A H (.ref a) (.lst ds)
  | scr {a : Addr} {ns : List Int} : A a → Rd H a (.lst (ns.map V.int)) → Rep A H (.ref a) (.scr ns)
  | dicK {a : Addr} {kvs : List (Key × V)} {ds : List D} : A a → Rd H a (.dK kvs) → Reps A H (kvs.map (·.2)) ds → Rep A H (.ref a) (.dic false (kvs.map fun p => kD p.1) ds)
  | dicT {a : Addr} {kvs : List (List Key × V)} {ds : List D} : A a → Rd H a (.dT kvs) → Reps A H (kvs.map (·.2)) ds → Rep A H (.ref a) (.dic true (kvs.map fun p => .tup (p.1.map kD)) ds)
  | ins {a C dx : Addr} {c : Str} {fs : List (Str × V)} {ds : List D} : A a → H a = some (.ins C dx fs) → mg c = some (.ref C) → Reps A H (fs.map (·.2)) ds → Rep A H (.ref a) (.ins c (fs.map (·.1)) ds)
  | ftup {a : Addr} {o : Obj} {xs : List V} {ds : List D} : H a = some (.frz o (.tup xs)) → o.dict = none → Reps A H xs ds → Rep A H (.ref a) (.ftup ds)
inductive Reps (A : Addr → Prop) (H : Hp) : List V → List D → Prop
  | nil : Reps A H [] []
  | cons {v : V} {vs : List V} {d : D} {ds : List D} : Rep A H v d → Reps A H vs ds → Reps A H (v :: vs) (d :: ds)
end
inductive Own (A : Addr → Prop) (H : Hp) (a : Addr) : D → Prop
  | lst {xs : List V} {ds : List D} : H a = some (.lst xs) → Reps mg A H xs ds → Own A H a (.lst ds)
  | dicK {kvs : List (Key × V)} {ds : List D} : H a = some (.dK kvs) → Reps mg A H (kvs.map (·.2)) ds → Own A H a (.dic false (kvs.map fun p => kD p.1) ds)
  | dicT {kvs : List (List Key × V)} {ds : List D} : H a = some (.dT kvs) → Reps mg A H (kvs.map (·.2)) ds → Own A H a (.dic true (kvs.map fun p => .tup (p.1.map kD)) ds)
  | ins {C dx : Addr} {c : Str} {fs : List (Str × V)} {ds : List D} : H a = some (.ins C dx fs) → mg c = some (.ref C) → Reps mg A H (fs.map (·.2)) ds → Own A H a (.ins c (fs.map (·.1)) ds)
end

class LT where
  T : List (Addr × Str)
instance (priority := 10) LT.none : LT := ⟨[]⟩
class RT where
  nw : Bool
  so : Bool
instance (priority := 10) RT.no : RT := ⟨false, false⟩
@[reducible] def RT.yes : RT := ⟨true, false⟩
@[reducible] def RT.st : RT := ⟨true, true⟩
variable [LT]
class NT (o : HO) : Prop where
  nt : ∀ ps, o ≠ .tbl ps
instance : NT (.lst xs) := ⟨fun _ h => nomatch h⟩
instance : NT (.tup xs) := ⟨fun _ h => nomatch h⟩
instance : NT (.dK xs) := ⟨fun _ h => nomatch h⟩
instance : NT (.dT xs) := ⟨fun _ h => nomatch h⟩
instance : NT (.ins C dx fs) := ⟨fun _ h => nomatch h⟩
instance : NT (.frz o u) := ⟨fun _ h => nomatch h⟩
instance : NT (.xd fs) := ⟨fun _ h => nomatch h⟩
instance : NT (.own y) := ⟨fun _ h => nomatch h⟩
instance : NT (.set S n) := ⟨fun _ h => nomatch h⟩
instance : NT (.ext φ) := ⟨fun _ h => nomatch h⟩
structure Same (H H' : Hp) : Prop where
  stay : ∀ (b : Addr) (o : HO), H b = some o → [NT o] → H' b = some o
  tab : LamX.Tabs LT.T H → LamX.Tabs LT.T H'
  dom : ∀ b, H' b = none → H b = none
instance {H H' : Hp} : CoeFun (Same H H') (fun _ => ∀ (b : Addr) (o : HO), H b = some o → [NT o] → H' b = some o) := ⟨fun s => s.stay⟩
theorem Same.of {H H' : Hp} (e : ∀ b o, H b = some o → H' b = some o) : Same H H' := ⟨fun b o h => e b o h, fun t => t.ext e, fun b h => by
  cases q : H b with
  | none => rfl
  | some o => rw [e b o q] at h; cases h⟩
theorem Same.refl (H : Hp) : Same H H := Same.of fun _ _ h => h
theorem Same.trans {H H1 H2 : Hp} (a : Same H H1) (b : Same H1 H2) : Same H H2 := ⟨fun c o h => b.stay c o (a.stay c o h), fun t => b.tab (a.tab t), fun c h => a.dom c (b.dom c h)⟩
theorem Same.free {H H' : Hp} (e : Same H H') {l : Addr} (h : H' l = Option.none) : H l = Option.none := e.dom l h
theorem Same.seq {K : PySem.W.Frag} {H H' : Hp} {a : Addr} {xs : List V} (e : Same H H') (h : SqL K H a xs) : SqL K H' a xs := by
  rcases h with (h | ⟨o, h⟩) | h
  · exact .inl (.inl (e _ _ h))
  · exact .inl (.inr ⟨o, e _ _ h⟩)
  · exact .inr h
structure Keep (A : Addr → Prop) (H H' : Hp) : Prop where
  rd : ∀ (a : Addr) (u : HO), A a → [NT u] → Rd H a u → Rd H' a u
  ins : ∀ a C dx fs, A a → H a = some (.ins C dx fs) → H' a = some (.ins C dx fs)
  lst : ∀ a xs, A a → H a = some (.lst xs) → H' a = some (.lst xs)
  tup : ∀ a xs, H a = some (.tup xs) → H' a = some (.tup xs)
  fz : ∀ a o xs, H a = some (.frz o (.tup xs)) → H' a = some (.frz o (.tup xs))
theorem Same.rd {H H' : Hp} (e : Same H H') {a : Addr} {u : HO} [NT u] (h : Rd H a u) : Rd H' a u := by
  rcases h with h | ⟨o, h⟩
  · exact .inl (e _ _ h)
  · exact .inr ⟨o, e _ _ h⟩
theorem Same.keep {A : Addr → Prop} {H H' : Hp} (e : Same H H') : Keep A H H' := ⟨fun _ _ _ _ h => Same.rd e h, fun _ _ _ _ _ h => e _ _ h, fun _ _ _ h => e _ _ h, fun _ _ h => e _ _ h, fun _ _ _ h => e _ _ h⟩
section
variable {K : PySem.W.Frag} {mg : Str → Option Value} {A A' : Addr → Prop} {H H' : Hp}
mutual
theorem Rep.mono (hA : ∀ a, A a → A' a) (k : Keep A H H') : ∀ {v : V} {d : D}, Rep mg A H v d → Rep mg A' H' v d
  | _, _, .non => .non
  | _, _, .bl b => .bl b
  | _, _, .int i => .int i
  | _, _, .str x => .str x
  | _, _, .tup h r => .tup (k.tup _ _ h) (Reps.mono hA k r)
  | _, _, .ftup h d r => .ftup (k.fz _ _ _ h) d (Reps.mono hA k r)
  | _, _, .lst a h r => .lst (hA _ a) (k.lst _ _ a h) (Reps.mono hA k r)
  | _, _, .scr a h => .scr (hA _ a) (k.rd _ _ a h)
  | _, _, .dicK a h r => .dicK (hA _ a) (k.rd _ _ a h) (Reps.mono hA k r)
  | _, _, .dicT a h r => .dicT (hA _ a) (k.rd _ _ a h) (Reps.mono hA k r)
  | _, _, .ins a h c r => .ins (hA _ a) (k.ins _ _ _ _ a h) c (Reps.mono hA k r)
theorem Reps.mono (hA : ∀ a, A a → A' a) (k : Keep A H H') : ∀ {vs : List V} {ds : List D}, Reps mg A H vs ds → Reps mg A' H' vs ds
  | _, _, .nil => .nil
  | _, _, .cons h t => .cons (Rep.mono hA k h) (Reps.mono hA k t)
end
theorem Rep.same (r : Rep mg A H v d) (e : Same H H') : Rep mg A H' v d := r.mono (fun _ h => h) (Same.keep e)
theorem Reps.same (r : Reps mg A H vs ds) (e : Same H H') : Reps mg A H' vs ds := r.mono (fun _ h => h) (Same.keep e)
theorem Reps.len : ∀ {vs : List V} {ds : List D}, Reps mg A H vs ds → vs.length = ds.length
  | _, _, .nil => rfl
  | _, _, .cons _ t => congrArg (· + 1) (Reps.len t)
theorem Reps.get : ∀ {vs : List V} {ds : List D} {i : Nat} {d : D}, Reps mg A H vs ds → ds[i]? = some d → ∃ v, vs[i]? = some v ∧ Rep mg A H v d
  | _, _, _, _, .nil, e => by simp at e
  | _, _, 0, _, .cons h _, e => by simp at e; subst e; exact ⟨_, rfl, h⟩
  | _, _, i + 1, _, .cons _ t, e => by
    obtain ⟨v, h1, h2⟩ := Reps.get (i := i) t (by simpa using e)
    exact ⟨v, by simpa using h1, h2⟩
theorem Reps.append : ∀ {vs ws : List V} {ds es : List D}, Reps mg A H vs ds → Reps mg A H ws es → Reps mg A H (vs ++ ws) (ds ++ es)
  | _, _, _, _, .nil, s => s
  | _, _, _, _, .cons h t, s => .cons h (Reps.append t s)
theorem Reps.rep (n : Nat) {vs : List V} {ds : List D} (h : Reps mg A H vs ds) : Reps mg A H (List.replicate n vs).flatten (List.replicate n ds).flatten := by
  induction n with
  | zero => exact .nil
  | succ n ih => simp only [List.replicate_succ, List.flatten_cons]; exact h.append ih
theorem Reps.take : ∀ {vs : List V} {ds : List D} (n : Nat), Reps mg A H vs ds → Reps mg A H (vs.take n) (ds.take n)
  | _, _, 0, _ => .nil
  | _, _, _ + 1, .nil => .nil
  | _, _, n + 1, .cons h t => .cons h (Reps.take n t)
theorem Reps.drop : ∀ {vs : List V} {ds : List D} (n : Nat), Reps mg A H vs ds → Reps mg A H (vs.drop n) (ds.drop n)
  | _, _, 0, r => r
  | _, _, _ + 1, .nil => .nil
  | _, _, n + 1, .cons _ t => Reps.drop n t
theorem Reps.reverse : ∀ {vs : List V} {ds : List D}, Reps mg A H vs ds → Reps mg A H vs.reverse ds.reverse
  | _, _, .nil => .nil
  | _, _, .cons h t => by
    rw [List.reverse_cons, List.reverse_cons]
    exact (Reps.reverse t).append (.cons h .nil)
theorem Reps.set : ∀ {vs : List V} {ds : List D} {v : V} {d : D} (i : Nat), Reps mg A H vs ds → Rep mg A H v d → Reps mg A H (vs.set i v) (ds.set i d)
  | _, _, _, _, _, .nil, _ => .nil
  | _, _, _, _, 0, .cons _ t, r => .cons r t
  | _, _, _, _, i + 1, .cons h t, r => .cons h (Reps.set i t r)
mutual
/-- what holds no list, dict, instance, leans on no address -/
theorem Rep.immut {B : Addr → Prop} : ∀ {v : V} {d : D}, d.imm = true → Rep mg A H v d → Rep mg B H v d
  | _, _, _, .non => .non
  | _, _, _, .bl b => .bl b
  | _, _, _, .int i => .int i
  | _, _, _, .str x => .str x
  | _, _, e, .tup h r => .tup h (Reps.immut (by simpa [D.imm] using e) r)
  | _, _, e, .ftup h d r => .ftup h d (Reps.immut (by simpa [D.imm] using e) r)
  | _, _, e, .lst .. => by simp [D.imm] at e
  | _, _, e, .scr .. => by simp [D.imm] at e
  | _, _, e, .dicK .. => by simp [D.imm] at e
  | _, _, e, .dicT .. => by simp [D.imm] at e
  | _, _, e, .ins .. => by simp [D.imm] at e
theorem Reps.immut {B : Addr → Prop} : ∀ {vs : List V} {ds : List D}, D.imms ds = true → Reps mg A H vs ds → Reps mg B H vs ds
  | _, _, _, .nil => .nil
  | _, _, e, .cons h t => by
    have e' : _ := e
    simp only [D.imms, Bool.and_eq_true] at e'
    exact .cons (Rep.immut e'.1 h) (Reps.immut e'.2 t)
end
theorem Own.mono {a : Addr} {d : D} (r : Own mg A H a d) (hA : ∀ a, A a → A' a) (k : Keep A H H') (e : ∀ (o : HO), H a = some o → [NT o] → H' a = some o) : Own mg A' H' a d := by
  cases r with
  | lst h r => exact .lst (e _ h) (r.mono hA k)
  | dicK h r => exact .dicK (e _ h) (r.mono hA k)
  | dicT h r => exact .dicT (e _ h) (r.mono hA k)
  | ins h c r => exact .ins (e _ h) c (r.mono hA k)
theorem Own.some {a : Addr} {d : D} (r : Own mg A H a d) : ∃ o, H a = some o := by
  cases r with
  | lst h r => exact ⟨_, h⟩
  | dicK h r => exact ⟨_, h⟩
  | dicT h r => exact ⟨_, h⟩
  | ins h c r => exact ⟨_, h⟩
theorem Own.rep {a : Addr} {d : D} (r : Own mg A H a d) (hA : ∀ a, A a → A' a) (ha : A' a) : Rep mg A' H (.ref a) d := by
  have k : Keep A H H := Same.keep (Same.refl H)
  cases r with
  | lst h r => exact .lst ha h (r.mono hA k)
  | dicK h r => exact .dicK ha (.inl h) (r.mono hA k)
  | dicT h r => exact .dicT ha (.inl h) (r.mono hA k)
  | ins h c r => exact .ins ha h c (r.mono hA k)
end
end PV

namespace PV
variable [LT] [RT]
open PySem PySem.Spec PyProof.Rows L2

structure Bs where
  H0 : Hp
  A0 : Addr → Prop
  sf : Addr
  tb : LamX.Tabs LT.T H0
def Lv (B : Bs) (O : Nat → Option Addr) (τ : Bool) (a : Addr) : Prop := (B.A0 a ∨ B.H0 a = none) ∧ (τ = true ∨ ∀ j, O j ≠ some a)
structure Fr (A : Addr → Prop) (H : Hp) : Prop where
  new : ∀ a, H a = Option.none → A a
  tb : LamX.Tabs LT.T H
instance {A : Addr → Prop} {H : Hp} : CoeFun (Fr A H) (fun _ => ∀ a, H a = Option.none → A a) := ⟨fun f => f.new⟩
theorem Same.tabs {H H' : Hp} (s : Same H H') (t : LamX.Tabs LT.T H) : LamX.Tabs LT.T H' := s.tab t
def Wr : HO → Prop
  | .lst _ => True
  | .dK _ => True
  | .dT _ => True
  | .ins _ _ _ => True
  | .ext φ => ∀ c q, HO.ext φ ≠ LamX.CodeO c q
  | _ => False
theorem Wr.nt {o : HO} (w : Wr o) : NT o := ⟨fun ps e => by subst e; exact w⟩
structure ERel (K : PySem.W.Frag) (mg : Str → Option Value) (B : Bs) (O : Nat → Option Addr) (σ : L2.St) (H : Hp) (env : DEnv) : Prop where
  len : env.length = σ.length
  same : Same B.H0 H
  vals : ∀ (i : Nat) (d : D), env[i]? = some (DSlot.val d) → ∃ v, σ[i]? = some (some v) ∧ Rep mg (Lv B O false) H v d
  owns : ∀ (i : Nat) (d : D), env[i]? = some (DSlot.own d) → ∃ p, O i = some p ∧ σ[i]? = some (some (.ref p)) ∧ B.H0 p = none ∧ Own mg (Lv B O false) H p d
  slfs : ∀ (i : Nat) (d : D), env[i]? = some (DSlot.slf d) → O i = some B.sf ∧ σ[i]? = some (some (.ref B.sf)) ∧ Own mg (Lv B O false) H B.sf d
  inj : ∀ (i j : Nat) (p : Addr), O i = some p → O j = some p → i = j
  trk : ∀ (i : Nat) (p : Addr), O i = some p → ∃ o, H p = some o ∧ Wr o
  fr0 : ∀ (i : Nat) (p : Addr), O i = some p → B.H0 p = none
  bd : ∃ n, ∀ i, n ≤ i → O i = none
  nst : ∀ (i : Nat) (p : Addr), O i = some p → i < env.length → ∃ d, env[i]? = some (DSlot.own d) ∨ env[i]? = some (DSlot.slf d)
section
variable {K : PySem.W.Frag} {mg : Str → Option Value} {B : Bs} {H H' H1 H2 : Hp} {O O' O1 O2 : Nat → Option Addr} {σ : L2.St} {env : DEnv} {τ : Bool}
theorem Lv.mono {a : Addr} (h : Lv B O false a) : Lv B O τ a := ⟨h.1, h.2.elim (fun z => Bool.noConfusion z) fun z => .inr z⟩
theorem Lv.any {a : Addr} (h : Lv B O τ a) : Lv B O true a := ⟨h.1, .inl rfl⟩
theorem ERel.heap (r : ERel K mg B O σ H env) (s : Same H H') : ERel K mg B O σ H' env :=
  ⟨r.len, r.same.trans s, fun i d e => let ⟨v, h1, h2⟩ := r.vals i d e; ⟨v, h1, h2.same s⟩,
   fun i d e => let ⟨p, h1, h2, h3, h4⟩ := r.owns i d e; ⟨p, h1, h2, h3, h4.mono (fun _ z => z) (Same.keep s) fun o z _ => s _ _ z⟩, fun i d e => let ⟨h1, h2, h4⟩ := r.slfs i d e; ⟨h1, h2, h4.mono (fun _ z => z) (Same.keep s) fun o z _ => s _ _ z⟩, r.inj, fun i p e => let ⟨o, z, w⟩ := r.trk i p e; haveI := Wr.nt w; ⟨o, s _ _ z, w⟩, r.fr0, r.bd, r.nst⟩
theorem ERel.fr (r : ERel K mg B O σ H env) : Fr (Lv B O τ) H := by
  refine ⟨fun a h => ⟨.inr (Same.free r.same h), .inr fun j e => ?_⟩, r.same.tabs B.tb⟩
  obtain ⟨o, z, _⟩ := r.trk j a e
  rw [h] at z; cases z
structure Fm (O : Nat → Option Addr) (H : Hp) (O' : Nat → Option Addr) (H' : Hp) : Prop where
  keep : ∀ (b : Addr) (o : HO), (∀ j, O j ≠ some b) → H b = some o → [NT o] → H' b = some o
  tab : LamX.Tabs LT.T H → LamX.Tabs LT.T H'
  dom : ∀ b, H' b = none → H b = none
  sub : ∀ j b, O' j = some b → (∃ i, O i = some b) ∨ H b = none
theorem Fm.of_same (s : Same H H') : Fm O H O H' := ⟨fun b o _ e _ => s b o e, s.tab, s.dom, fun j b e => .inl ⟨j, e⟩⟩
theorem Fm.trans (a : Fm O H O1 H1) (b : Fm O1 H1 O2 H2) : Fm O H O2 H2 := by
  have out : ∀ c o, (∀ j, O j ≠ some c) → H c = some o → ∀ j, O1 j ≠ some c := fun c o hc e j z => by
    rcases a.sub j c z with ⟨i, q⟩ | q
    · exact hc i q
    · rw [e] at q; cases q
  refine ⟨fun c o hc e _ => b.keep c o (out c o hc e) (a.keep c o hc e), fun t => b.tab (a.tab t), fun c h => a.dom c (b.dom c h), fun j c e => ?_⟩
  rcases b.sub j c e with ⟨i, q⟩ | q
  · exact a.sub i c q
  · by_cases hc : ∃ i, O i = some c
    · exact .inl hc
    · cases z : H c with
      | none => exact .inr rfl
      | some o =>
        have := a.dom c q
        rw [z] at this; cases this
end

section
variable {K : PySem.W.Frag} {mg : Str → Option Value} {A : Addr → Prop} {H : Hp} {p : Addr}
theorem Rd.ne {a : Addr} {u : HO} (h : Rd H a u) (hp : H p = none) : a ≠ p := fun e => by
  subst e
  rcases h with h | ⟨o, h⟩ <;> (rw [hp] at h; cases h)
mutual
theorem Rep.ne (hp : H p = none) : ∀ {v : V} {d : D}, Rep mg A H v d → Rep mg (fun a => A a ∧ a ≠ p) H v d
  | _, _, .non => .non
  | _, _, .bl b => .bl b
  | _, _, .int i => .int i
  | _, _, .str x => .str x
  | _, _, .tup h r => .tup h (Reps.ne hp r)
  | _, _, .ftup h d r => .ftup h d (Reps.ne hp r)
  | _, _, .lst a h r => .lst ⟨a, Rd.ne (.inl h) hp⟩ h (Reps.ne hp r)
  | _, _, .scr a h => .scr ⟨a, Rd.ne h hp⟩ h
  | _, _, .dicK a h r => .dicK ⟨a, Rd.ne h hp⟩ h (Reps.ne hp r)
  | _, _, .dicT a h r => .dicT ⟨a, Rd.ne h hp⟩ h (Reps.ne hp r)
  | _, _, .ins a h c r => .ins ⟨a, Rd.ne (.inl h) hp⟩ h c (Reps.ne hp r)
theorem Reps.ne (hp : H p = none) : ∀ {vs : List V} {ds : List D}, Reps mg A H vs ds → Reps mg (fun a => A a ∧ a ≠ p) H vs ds
  | _, _, .nil => .nil
  | _, _, .cons h t => .cons (Rep.ne hp h) (Reps.ne hp t)
end
theorem Rd.trk {a : Addr} {u : HO} (h : Rd H a u) : ∃ o, H a = some o := by
  rcases h with h | ⟨o, h⟩
  · exact ⟨_, h⟩
  · exact ⟨_, h⟩
mutual
theorem Rep.keepT {B : Addr → Prop} (f : ∀ a, A a → (∃ o, H a = some o) → B a) : ∀ {v : V} {d : D}, Rep mg A H v d → Rep mg B H v d
  | _, _, .non => .non
  | _, _, .bl b => .bl b
  | _, _, .int i => .int i
  | _, _, .str x => .str x
  | _, _, .tup h r => .tup h (Reps.keepT f r)
  | _, _, .ftup h d r => .ftup h d (Reps.keepT f r)
  | _, _, .lst a h r => .lst (f _ a ⟨_, h⟩) h (Reps.keepT f r)
  | _, _, .scr a h => .scr (f _ a (Rd.trk h)) h
  | _, _, .dicK a h r => .dicK (f _ a (Rd.trk h)) h (Reps.keepT f r)
  | _, _, .dicT a h r => .dicT (f _ a (Rd.trk h)) h (Reps.keepT f r)
  | _, _, .ins a h c r => .ins (f _ a ⟨_, h⟩) h c (Reps.keepT f r)
theorem Reps.keepT {B : Addr → Prop} (f : ∀ a, A a → (∃ o, H a = some o) → B a) : ∀ {vs : List V} {ds : List D}, Reps mg A H vs ds → Reps mg B H vs ds
  | _, _, .nil => .nil
  | _, _, .cons h t => .cons (Rep.keepT f h) (Reps.keepT f t)
end
end

section
variable (K : PySem.W.Frag) (mg : Str → Option Value)
def tE (τ : Bool) (de : Ex) : TE := fun σ H Q => ∃ B O env d, ERel K mg B O σ H env ∧ de env = some d ∧ ∀ v H', Same H H' → Rep mg (Lv B O τ) H' v d → Q v H'
def tT (dt : Tx) : TT := fun σ H Q => ∃ B O env b, ERel K mg B O σ H env ∧ dt env = some b ∧ ∀ H', Same H H' → Q b H'
def tA (τ : Bool) (da : Ax) : TA := fun σ H Q => ∃ B O env ds, ERel K mg B O σ H env ∧ da env = some ds ∧ ∀ vs H', Same H H' → Reps mg (Lv B O τ) H' vs ds → Q vs H'
def tN (de : Ex) : TE := fun σ H Q => ∃ B O env d, ERel K mg B O σ H env ∧ de env = some d ∧ ∀ p H', Same H H' → H p = none → Own mg (fun a => Lv B O false a ∧ a ≠ p) H' p d → Q (.ref p) H'
def retP (B : Bs) (H' : Hp) (v : V) (d : D) : Prop := match RT.nw with
  | false => Rep mg (Lv B (fun _ => none) true) H' v d
  | true => match RT.so with
    | false => ∃ p, v = .ref p ∧ B.H0 p = none ∧ Own mg (fun a => Lv B (fun _ => none) true a ∧ a ≠ p) H' p d
    | true => ∃ d0 dn, d = .tup [d0, dn] ∧ Rep mg (fun a => Lv B (fun _ => none) true a ∧ a ≠ B.sf) H' v d0 ∧ Own mg (fun a => Lv B (fun _ => none) true a ∧ a ≠ B.sf) H' B.sf dn
def PostS (B : Bs) (O : Nat → Option Addr) (H : Hp) (D : Ends) : DRes → Prop
  | .nx e => ∀ σ' H' O', ERel K mg B O' σ' H' e → Fm O H O' H' → D.nx σ' H'
  | .bk e => ∀ σ' H' O', ERel K mg B O' σ' H' e → Fm O H O' H' → D.bk σ' H'
  | .ct e => ∀ σ' H' O', ERel K mg B O' σ' H' e → Fm O H O' H' → D.ct σ' H'
  | .ret d => ∀ v H', Same B.H0 H' → retP mg B H' v d → D.rt v H'
def tS (db : Sx) : TS := fun D σ H => ∃ B O env r, ERel K mg B O σ H env ∧ db env = some r ∧ PostS K mg B O H D r
def Walks (A : Addr → Prop) (J : It) (ds : List D) (H1 : Hp) : Prop := ∀ (i : Nat) H, Keep A H1 H → (∀ x, ds[i]? = some x → J.go i H ∧ ∀ v H', J.yld i H v H' → Same H H' ∧ Rep mg A H' v x) ∧ (ds[i]? = none → J.stop i H)
def tI (di : Ax) : TI := fun σ H R => ∃ B O env ds, ERel K mg B O σ H env ∧ di env = some ds ∧ ∀ J H', Same H H' → Walks mg (fun a => Lv B O false a ∧ ∃ o, H' a = some o) J ds H' → R J H'
def rC (f : Fn) : List V → Hp → VK → Prop := fun vs H Q => ∃ A ds d, Fr A H ∧ Reps mg A H vs ds ∧ f ds = some d ∧ ∀ v H', Same H H' → Rep mg A H' v d → Q v H'
def spD (f : Fn) : Sp := fun vs H Q _ => rC mg f vs H Q
def rD (f : D → D → Option D) : R2 := fun x y H Q => ∃ A dx dy d, Fr A H ∧ Rep mg A H x dx ∧ Rep mg A H y dy ∧ f dx dy = some d ∧ ∀ v H', Same H H' → Rep mg A H' v d → Q v H'
end
theorem retP_rep {mg : Str → Option Value} {B : Bs} {H' : Hp} {v : V} {d : D} (hs : RT.so = false) (h : retP mg B H' v d) : Rep mg (Lv B (fun _ => none) true) H' v d := by
  unfold retP at h
  rw [hs] at h
  split at h
  · exact h
  · obtain ⟨p, rfl, hp, o⟩ := h
    exact o.rep (fun a z => z.1) ⟨.inr hp, .inl rfl⟩
theorem retP_of {mg : Str → Option Value} {B : Bs} {H' : Hp} {v : V} {d : D} (hn : RT.nw = false) (h : Rep mg (Lv B (fun _ => none) true) H' v d) : retP mg B H' v d := by
  unfold retP
  rw [hn]
  exact h
abbrev SE (X : Cx) (τ : Bool) (e : Expr) (de : Ex) : Prop := PE X e (tE X.K X.mg τ de)
abbrev SN (X : Cx) (e : Expr) (de : Ex) : Prop := PE X e (tN X.K X.mg de)
abbrev ST (X : Cx) (e : Expr) (dt : Tx) : Prop := PT X e (tT X.K X.mg dt)
abbrev SWd (X : Cx) (e : Expr) (dt : Tx) : Prop := PW X e (tT X.K X.mg dt)
abbrev SA (X : Cx) (τ : Bool) (es : List Expr) (da : Ax) : Prop := PA X es (tA X.K X.mg τ da)
abbrev SS (X : Cx) (s : Stmt) (ds : Sx) : Prop := PS X s (tS X.K X.mg ds)
abbrev SSs (X : Cx) (s : List Stmt) (ds : Sx) : Prop := PSs X s (tS X.K X.mg ds)
abbrev SI (X : Cx) (tg e : Expr) (di : Ax) : Prop := PI X tg e (tI X.K X.mg di)

theorem _root_.L2.PE.weak {X : Cx} {e : Expr} {t t' : TE} (h : PE X e t) (w : ∀ σ H Q, t' σ H Q → t σ H Q) : PE X e t' := ⟨fun pins s σ H Q I q => h.run pins s σ H Q I (w _ _ _ q)⟩
theorem _root_.L2.PT.weak {X : Cx} {e : Expr} {t t' : TT} (h : PT X e t) (w : ∀ σ H Q, t' σ H Q → t σ H Q) : PT X e t' := ⟨fun pins s σ H Q I q => h.run pins s σ H Q I (w _ _ _ q)⟩
theorem _root_.L2.PW.weak {X : Cx} {e : Expr} {t t' : TT} (h : PW X e t) (w : ∀ σ H Q, t' σ H Q → t σ H Q) : PW X e t' := ⟨fun wh pins s σ H Q I q => h.run wh pins s σ H Q I (w _ _ _ q)⟩
theorem _root_.L2.PA.weak {X : Cx} {e : List Expr} {t t' : TA} (h : PA X e t) (w : ∀ σ H Q, t' σ H Q → t σ H Q) : PA X e t' := ⟨fun pos pins s σ H Q I q => h.run pos pins s σ H Q I (w _ _ _ q)⟩
theorem _root_.L2.PS.weak {X : Cx} {e : Stmt} {t t' : TS} (h : PS X e t) (w : ∀ D σ H, t' D σ H → t D σ H) : PS X e t' := ⟨fun pins s σ H D I q => h.run pins s σ H D I (w _ _ _ q)⟩
theorem _root_.L2.PSs.weak {X : Cx} {e : List Stmt} {t t' : TS} (h : PSs X e t) (w : ∀ D σ H, t' D σ H → t D σ H) : PSs X e t' := ⟨fun pins s σ H D I q => h.run pins s σ H D I (w _ _ _ q)⟩
theorem _root_.L2.PG.weak {X : Cx} {e : Expr} {t t' : TG} (h : PG X e t) (w : ∀ v σ H Q, t' v σ H Q → t v σ H Q) : PG X e t' := ⟨fun pins s σ H v u Q I r q => h.run pins s σ H v u Q I r (w _ _ _ _ q)⟩
theorem _root_.L2.PGs.weak {X : Cx} {e : List Expr} {t t' : TGs} (h : PGs X e t) (w : ∀ v σ H Q, t' v σ H Q → t v σ H Q) : PGs X e t' := ⟨fun pins s σ H v u Q I r q => h.run pins s σ H v u Q I r (w _ _ _ _ q)⟩
theorem _root_.L2.PI.weak {X : Cx} {tg e : Expr} {t t' : TI} (h : PI X tg e t) (w : ∀ σ H R, t' σ H R → t σ H R) : PI X tg e t' := ⟨fun pins s σ H R I q => h.run pins s σ H R I (w _ _ _ q)⟩

theorem bnd {α β : Type} {o : Option α} {f : α → Option β} {b : β} (h : o.bind f = some b) : ∃ a, o = some a ∧ f a = some b := Option.bind_eq_some_iff.mp h

section
variable {X : Cx} {τ : Bool}
theorem SE.up {e : Expr} {de : Ex} (h : SE X false e de) : SE X τ e de := h.weak fun σ H Q ⟨B, O, env, d, r, h1, q⟩ => ⟨B, O, env, d, r, h1, fun v H' s rv => q v H' s (rv.mono (fun _ z => Lv.mono z) (Same.keep (Same.refl _)))⟩
theorem se_var (i : Nat) {x : Str} {pos : Pos} (hN : X.N[i]? = some x := by rfl) (hv : Vis X.env.scope x := by first | exact Or.inl rfl | exact Or.inr (Or.inl rfl) | exact Or.inr (Or.inr rfl)) (hd : (x == ("__debug__" : Str)) = false := by decide)
    (hcd : (x == ("__classdict__" : Str)) = false := by decide) : SE X τ (.Name x pos) (var i) := (pe_var hN hv hd hcd).weak fun σ H Q ⟨B, O, env, d, r, h1, q⟩ => by
  unfold var at h1
  split at h1
  · rename_i d' e
    cases h1
    obtain ⟨v, h2, h3⟩ := r.vals i _ e
    exact ⟨v, h2, q v H (Same.refl H) (h3.mono (fun _ z => Lv.mono z) (Same.keep (Same.refl _)))⟩
  · cases h1
theorem se_ovar (i : Nat) {x : Str} {pos : Pos} (hN : X.N[i]? = some x := by rfl) (hv : Vis X.env.scope x := by first | exact Or.inl rfl | exact Or.inr (Or.inl rfl) | exact Or.inr (Or.inr rfl)) (hd : (x == ("__debug__" : Str)) = false := by decide)
    (hcd : (x == ("__classdict__" : Str)) = false := by decide) : SE X true (.Name x pos) (ovar i) := (pe_var hN hv hd hcd).weak fun σ H Q ⟨B, O, env, d, r, h1, q⟩ => by
  unfold ovar at h1
  split at h1
  · rename_i d' e
    cases h1
    obtain ⟨p, h2, h3, h4, h5⟩ := r.owns i _ e
    exact ⟨.ref p, h3, q _ H (Same.refl H) (h5.rep (fun _ z => Lv.mono z) ⟨.inr h4, .inl rfl⟩)⟩
  · cases h1
theorem se_int {i j pos} : SE X τ (.Constant (.int i) j pos) (cst (.int i)) := pe_int.weak fun σ H Q ⟨B, O, env, d, r, h1, q⟩ => by cases h1; exact q _ H (Same.refl H) (.int i)
theorem se_bl {i j pos} : SE X τ (.Constant (.bool i) j pos) (cst (.bl i)) := pe_bl.weak fun σ H Q ⟨B, O, env, d, r, h1, q⟩ => by cases h1; exact q _ H (Same.refl H) (.bl i)
theorem se_str {i j pos} : SE X τ (.Constant (.str i) j pos) (cst (.str i)) := pe_str.weak fun σ H Q ⟨B, O, env, d, r, h1, q⟩ => by cases h1; exact q _ H (Same.refl H) (.str i)
theorem se_imm {e : Expr} {de : Ex} (h : SE X true e de) : SE X τ e (imm de) := h.weak fun σ H Q ⟨B, O, env, d, r, h1, q⟩ => by
  obtain ⟨d', h2, h3⟩ := bnd h1
  split at h3
  · rename_i hi
    cases h3
    exact ⟨B, O, env, d, r, h2, fun v H' s rv => q v H' s (rv.immut hi)⟩
  · cases h3
theorem tOp_of {f : D → D → Option D} {a b : Ex} {K : PySem.W.Frag} {mg : Str → Option Value} {σ : L2.St} {H : Hp} {Q : VK} (h : tE K mg τ (op2 f a b) σ H Q) : tOp (rD mg f) (tE K mg τ a) (tE K mg τ b) σ H Q := by
  obtain ⟨B, O, env, d, r, h1, q⟩ := h
  obtain ⟨x, hx, h1⟩ := bnd h1
  obtain ⟨y, hy, h1⟩ := bnd h1
  refine ⟨B, O, env, x, r, hx, fun v H1 s1 r1 => ⟨B, O, env, y, r.heap s1, hy, fun w H2 s2 r2 => ?_⟩⟩
  exact ⟨_, x, y, d, ((r.heap s1).heap s2).fr, r1.same s2, r2, h1, fun v' H' s' rv => q v' H' ((s1.trans s2).trans s') rv⟩
theorem se_op2 {f : D → D → Option D} {op : Operator} {a b : Expr} {da db : Ex} {pos : Pos} (ho : OpR X (binaryOp op) (rD X.mg f)) (ha : SE X τ a da) (hb : SE X τ b db) : SE X τ (.BinOp a op b pos) (op2 f da db) := (pe_op ho ha hb).weak fun _ _ _ h => tOp_of h
theorem sa_nil : SA X τ [] aN := pa_nil.weak fun σ H Q ⟨B, O, env, ds, r, h1, q⟩ => by cases h1; exact q _ H (Same.refl H) .nil
theorem sa_cons {e : Expr} {es : List Expr} {de : Ex} {da : Ax} (he : SE X τ e de) (ha : SA X τ es da) (hs : starEach (e :: es) X.env = (false, eval e X.env) :: starEach es X.env := by rfl) : SA X τ (e :: es) (aC de da) := (pa_cons he ha hs).weak fun σ H Q ⟨B, O, env, ds, r, h1, q⟩ => by
  obtain ⟨x, hx, h1⟩ := bnd h1
  obtain ⟨xs, hxs, h1⟩ := bnd h1
  cases h1
  exact ⟨B, O, env, x, r, hx, fun v H1 s1 r1 => ⟨B, O, env, xs, r.heap s1, hxs, fun vs H2 s2 r2 => q _ H2 (s1.trans s2) (.cons (r1.same s2) r2)⟩⟩
theorem same_upd {H : Hp} {p : Addr} {o : HO} (h : H p = none) : Same H (upd H p o) := Same.of fun b u e => by rw [upd_ne (ne_of_none e h)]; exact e
theorem szL_ok {n : Nat} (h : n ≤ szL) : n ≤ sizeLine := by rw [sizeLine_eq]; exact h
theorem sn_lst {es : List Expr} {da : Ax} {pos : Pos} (ha : SA X false es da) : SN X (.List es pos) (lstE da) := (pe_lst ha).weak fun σ H Q ⟨B, O, env, d, r, h1, q⟩ => by
  obtain ⟨xs, hx, h2⟩ := bnd h1
  split at h2
  · rename_i hz
    cases h2
    refine ⟨B, O, env, xs, r, hx, fun vs H1 s1 r1 => ⟨by rw [r1.len]; exact szL_ok hz, fun p hp => ?_⟩⟩
    exact q p _ (s1.trans (same_upd hp)) (Same.free s1 hp) (.lst upd_same ((Reps.ne hp r1).same (same_upd hp)))
  · cases h2
theorem SN.se {e : Expr} {de : Ex} (h : SN X e de) : SE X τ e de := h.weak fun σ H Q ⟨B, O, env, d, r, h1, q⟩ => ⟨B, O, env, d, r, h1, fun p H' s hp o => q _ H' s (o.rep (fun _ z => Lv.mono z.1) (r.fr p hp))⟩
end
end PV

namespace PV
variable [LT] [RT]
open PySem PySem.Spec PyProof.Rows L2
section
variable {K : PySem.W.Frag} {mg : Str → Option Value} {B : Bs} {H H' H1 H2 : Hp} {O O' O1 O2 : Nat → Option Addr} {σ : L2.St} {env : DEnv} {τ : Bool} {i : Nat} {v : V} {d : D} {p : Addr}
def offO (O : Nat → Option Addr) (i : Nat) : Nat → Option Addr := fun j => if j = i then none else O j
def putO (O : Nat → Option Addr) (i : Nat) (p : Addr) : Nat → Option Addr := fun j => if j = i then some p else O j
theorem offO_some {j : Nat} {p : Addr} (h : offO O i j = some p) : j ≠ i ∧ O j = some p := by
  unfold offO at h
  split at h
  · cases h
  · rename_i hj; exact ⟨hj, h⟩
theorem bd_off (h : ∃ n, ∀ j, n ≤ j → O j = none) : ∃ n, ∀ j, n ≤ j → offO O i j = none := by
  obtain ⟨n, h⟩ := h
  refine ⟨n, fun j hj => ?_⟩
  unfold offO
  split
  · rfl
  · exact h j hj
theorem bd_put (h : ∃ n, ∀ j, n ≤ j → O j = none) : ∃ n, ∀ j, n ≤ j → putO O i p j = none := by
  obtain ⟨n, h⟩ := h
  refine ⟨n + i + 1, fun j hj => ?_⟩
  unfold putO
  rw [if_neg (by omega)]
  exact h j (by omega)
theorem Lv.off {a : Addr} (h : Lv B O τ a) : Lv B (offO O i) τ a := ⟨h.1, h.2.elim .inl fun z => .inr fun j e => z j (offO_some e).2⟩
theorem keepRefl {A : Addr → Prop} {H : Hp} : Keep A H H := Same.keep (Same.refl H)
theorem get_set {α : Type} {l : List α} {i j : Nat} {x y : α} (h : (l.set i x)[j]? = some y) : (j = i ∧ y = x ∧ i < l.length) ∨ (j ≠ i ∧ l[j]? = some y) := by
  by_cases e : j = i
  · subst e
    by_cases hl : j < l.length
    · rw [List.getElem?_set_self hl] at h; cases h; exact .inl ⟨rfl, rfl, hl⟩
    · rw [List.getElem?_eq_none (by simpa using hl)] at h; cases h
  · rw [List.getElem?_set_ne (Ne.symm e)] at h
    exact .inr ⟨e, h⟩
theorem ERel.set (r : ERel K mg B O σ H env) (hv : Rep mg (Lv B O false) H v d) : ERel K mg B (offO O i) (σ.set i (some v)) H (env.set i (.val d)) := by
  have up : ∀ a, Lv B O false a → Lv B (offO O i) false a := fun a h => h.off
  refine ⟨by simp [r.len], r.same, fun j d' e => ?_, fun j d' e => ?_, fun j d' e => ?_, fun j k p a b => r.inj j k p (offO_some a).2 (offO_some b).2, fun j p a => r.trk j p (offO_some a).2, fun j p a => r.fr0 j p (offO_some a).2, bd_off r.bd, fun j p a hj => by
    obtain ⟨h1, h2⟩ := offO_some a
    rw [List.getElem?_set_ne (Ne.symm h1)]
    exact r.nst j p h2 (by simpa using hj)⟩
  · rcases get_set e with ⟨rfl, e2, hl⟩ | ⟨hj, e2⟩
    · cases e2
      exact ⟨v, List.getElem?_set_self (by rw [← r.len]; exact hl), hv.mono up keepRefl⟩
    · obtain ⟨w, h1, h2⟩ := r.vals j d' e2
      exact ⟨w, by rw [List.getElem?_set_ne (Ne.symm hj)]; exact h1, h2.mono up keepRefl⟩
  · rcases get_set e with ⟨rfl, e2, hl⟩ | ⟨hj, e2⟩
    · cases e2
    · obtain ⟨p, h1, h2, h3, h4⟩ := r.owns j d' e2
      exact ⟨p, by unfold offO; rw [if_neg hj]; exact h1, by rw [List.getElem?_set_ne (Ne.symm hj)]; exact h2, h3, h4.mono up keepRefl fun _ z => z⟩
  · rcases get_set e with ⟨rfl, e2, hl⟩ | ⟨hj, e2⟩
    · cases e2
    · obtain ⟨h1, h2, h4⟩ := r.slfs j d' e2
      exact ⟨by unfold offO; rw [if_neg hj]; exact h1, by rw [List.getElem?_set_ne (Ne.symm hj)]; exact h2, h4.mono up keepRefl fun _ z => z⟩
theorem Fm.off (a : Fm O H O' H') : Fm O H (offO O' i) H' := ⟨a.keep, a.tab, a.dom, fun j b e => a.sub j b (offO_some e).2⟩
theorem ERel.setOwn (r : ERel K mg B O σ H env) (s : Same H H') (hp : H p = none) (ho : Own mg (fun a => Lv B O false a ∧ a ≠ p) H' p d) :
    ERel K mg B (putO O i p) (σ.set i (some (.ref p))) H' (env.set i (.own d)) ∧ Fm O H (putO O i p) H' := by
  have nO : ∀ j, O j ≠ some p := fun j e => by
    obtain ⟨o, z, _⟩ := r.trk j p e
    rw [hp] at z; cases z
  have up : ∀ a, (Lv B O false a ∧ a ≠ p) → Lv B (putO O i p) false a := fun a h => ⟨h.1.1, .inr fun j e => by
    unfold putO at e
    split at e
    · exact h.2 (Option.some.inj e).symm
    · exact (h.1.2.elim (fun z => Bool.noConfusion z) fun z => z) j e⟩
  have h0 : B.H0 p = none := Same.free r.same hp
  refine ⟨⟨by simp [r.len], r.same.trans s, fun j d' e => ?_, fun j d' e => ?_, fun j d' e => ?_, fun j k q a b => ?_, fun j q a => ?_, fun j q a => ?_, bd_put r.bd, fun j q a hj => ?_⟩, ⟨fun b o _ e _ => s b o e, s.tab, s.dom, fun j b e => ?_⟩⟩
  · rcases get_set e with ⟨rfl, e2, hl⟩ | ⟨hj, e2⟩
    · cases e2
    · obtain ⟨w, h1, h2⟩ := r.vals j d' e2
      exact ⟨w, by rw [List.getElem?_set_ne (Ne.symm hj)]; exact h1, ((Rep.ne hp h2).mono up keepRefl).same s⟩
  · rcases get_set e with ⟨rfl, e2, hl⟩ | ⟨hj, e2⟩
    · cases e2
      exact ⟨p, by unfold putO; rw [if_pos rfl], List.getElem?_set_self (by rw [← r.len]; exact hl), h0, ho.mono up keepRefl fun _ z => z⟩
    · obtain ⟨q, h1, h2, h3, h4⟩ := r.owns j d' e2
      refine ⟨q, by unfold putO; rw [if_neg hj]; exact h1, by rw [List.getElem?_set_ne (Ne.symm hj)]; exact h2, h3, ?_⟩
      cases h4 with
      | lst h r => exact .lst (s _ _ h) (((Reps.ne hp r).mono up keepRefl).same s)
      | dicK h r => exact .dicK (s _ _ h) (((Reps.ne hp r).mono up keepRefl).same s)
      | dicT h r => exact .dicT (s _ _ h) (((Reps.ne hp r).mono up keepRefl).same s)
      | ins h c r => exact .ins (s _ _ h) c (((Reps.ne hp r).mono up keepRefl).same s)
  · rcases get_set e with ⟨rfl, e2, hl⟩ | ⟨hj, e2⟩
    · cases e2
    · obtain ⟨h1, h2, h4⟩ := r.slfs j d' e2
      refine ⟨by unfold putO; rw [if_neg hj]; exact h1, by rw [List.getElem?_set_ne (Ne.symm hj)]; exact h2, ?_⟩
      cases h4 with
      | lst h r => exact .lst (s _ _ h) (((Reps.ne hp r).mono up keepRefl).same s)
      | dicK h r => exact .dicK (s _ _ h) (((Reps.ne hp r).mono up keepRefl).same s)
      | dicT h r => exact .dicT (s _ _ h) (((Reps.ne hp r).mono up keepRefl).same s)
      | ins h c r => exact .ins (s _ _ h) c (((Reps.ne hp r).mono up keepRefl).same s)
  · unfold putO at a b
    split at a <;> split at b
    · rename_i e1 e2; exact e1.trans e2.symm
    · cases a; exact absurd b (nO _)
    · cases b; exact absurd a (nO _)
    · exact r.inj j k q a b
  · unfold putO at a
    split at a
    · cases a
      cases ho with
      | lst h r => exact ⟨_, h, trivial⟩
      | dicK h r => exact ⟨_, h, trivial⟩
      | dicT h r => exact ⟨_, h, trivial⟩
      | ins h c r => exact ⟨_, h, trivial⟩
    · obtain ⟨o, z, w⟩ := r.trk j q a
      haveI := Wr.nt w
      exact ⟨o, s _ _ z, w⟩
  · unfold putO at a
    split at a
    · cases a; exact h0
    · exact r.fr0 j q a
  · unfold putO at a
    by_cases ej : j = i
    · subst ej
      exact ⟨d, .inl (List.getElem?_set_self (by simpa using hj))⟩
    · rw [if_neg ej] at a
      rw [List.getElem?_set_ne (Ne.symm ej)]
      exact r.nst j q a (by simpa using hj)
  · unfold putO at e
    split at e
    · cases e; exact .inr hp
    · exact .inl ⟨j, e⟩
theorem tabS_upd {H : Hp} {p P : Addr} {q : Str} {o o' : HO} (hp : H p = some o) (w : Wr o) (t : LamX.TabS H P q) : LamX.TabS (upd H p o') P q := by
  obtain ⟨ps, h1, h2, h3⟩ := t
  have ne : P ≠ p := fun e => by subst e; rw [hp] at h1; cases h1; exact w
  refine ⟨ps, by rw [upd_ne ne]; exact h1, h2, fun pos cv hc => ?_⟩
  obtain ⟨c, e1, e2⟩ := h3 pos cv hc
  have nc : c ≠ p := fun e => by subst e; rw [hp] at e2; cases e2; exact w _ _ rfl
  exact ⟨c, e1, by rw [upd_ne nc]; exact e2⟩
theorem dom_upd {H : Hp} {p b : Addr} {o' : HO} (h : upd H p o' b = Option.none) : H b = Option.none := by
  by_cases e : b = p
  · subst e; rw [upd_same] at h; cases h
  · rw [upd_ne e] at h; exact h
theorem Same.put {H H' : Hp} {p : Addr} {o o' : HO} (s : Same H H') (h0 : H p = Option.none) (hp : H' p = some o) (w : Wr o) : Same H (upd H' p o') :=
  ⟨fun b ob z _ => by rw [upd_ne (ne_of_none z h0)]; exact s b ob z, fun t p2 hp2 => tabS_upd hp w (s.tab t p2 hp2), fun b h => s.dom b (dom_upd h)⟩
theorem keep_write {o' : HO} (r : ERel K mg B O σ H env) (hO : O i = some p) : Keep (Lv B O false) H (upd H p o') := by
  obtain ⟨o, hp, w⟩ := r.trk i p hO
  have ne : ∀ a, Lv B O false a → a ≠ p := fun a h e => by
    subst e
    exact h.2.elim (fun z => Bool.noConfusion z) fun z => z i hO
  refine ⟨fun a u ha _ h => ?_, fun a C dx fs ha h => by rw [upd_ne (ne a ha)]; exact h, fun a xs ha h => by rw [upd_ne (ne a ha)]; exact h, fun a xs h => ?_, fun a ob xs h => ?_⟩
  · rcases h with h | ⟨ob, h⟩
    · exact .inl (by rw [upd_ne (ne a ha)]; exact h)
    · exact .inr ⟨ob, by rw [upd_ne (ne a ha)]; exact h⟩
  · have nt : a ≠ p := fun e => by
      subst e
      rw [hp] at h; cases h; exact w
    rw [upd_ne nt]; exact h
  · have nt : a ≠ p := fun e => by
      subst e
      rw [hp] at h; cases h; exact w
    rw [upd_ne nt]; exact h
theorem ERel.write {o' : HO} {d' : D} (r : ERel K mg B O σ H env) (hO : O i = some p) (hs : σ[i]? = some (some (.ref p))) (ho : Own mg (Lv B O false) (upd H p o') p d') (hw : Wr o') :
    ERel K mg B O σ (upd H p o') (env.set i (.own d')) ∧ Fm O H O (upd H p o') := by
  have k : Keep (Lv B O false) H (upd H p o') := keep_write r hO
  have h0 := r.fr0 i p hO
  obtain ⟨o0, hp0, w0⟩ := r.trk i p hO
  refine ⟨⟨by simp [r.len], ⟨fun b o e _ => ?_, fun t p2 hp2 => tabS_upd hp0 w0 (r.same.tab t p2 hp2), fun b h => r.same.dom b (dom_upd h)⟩, fun j d2 e => ?_, fun j d2 e => ?_, fun j d2 e => ?_, r.inj, fun j q a => ?_, r.fr0, r.bd, fun j q a hj => by
    by_cases ej : j = i
    · subst ej
      exact ⟨d', .inl (List.getElem?_set_self (by simpa using hj))⟩
    · rw [List.getElem?_set_ne (Ne.symm ej)]
      exact r.nst j q a (by simpa using hj)⟩, ⟨fun b o hb e _ => by rw [upd_ne (fun z => hb i (by rw [z]; exact hO))]; exact e, fun t p2 hp2 => tabS_upd hp0 w0 (t p2 hp2), fun b h => dom_upd h, fun j b e => .inl ⟨j, e⟩⟩⟩
  · rw [upd_ne (ne_of_none e h0)]; exact r.same b o e
  · rcases get_set e with ⟨rfl, e2, hl⟩ | ⟨hj, e2⟩
    · cases e2
    · obtain ⟨w, h1, h2⟩ := r.vals j d2 e2
      exact ⟨w, h1, h2.mono (fun _ z => z) k⟩
  · rcases get_set e with ⟨rfl, e2, hl⟩ | ⟨hj, e2⟩
    · cases e2
      exact ⟨p, hO, hs, h0, ho⟩
    · obtain ⟨q, h1, h2, h3, h4⟩ := r.owns j d2 e2
      have nq : q ≠ p := fun z => hj (r.inj j i p (z ▸ h1) hO)
      exact ⟨q, h1, h2, h3, h4.mono (fun _ z => z) k fun o z _ => by rw [upd_ne nq]; exact z⟩
  · rcases get_set e with ⟨rfl, e2, hl⟩ | ⟨hj, e2⟩
    · cases e2
    · obtain ⟨h1, h2, h4⟩ := r.slfs j d2 e2
      have nq : B.sf ≠ p := fun z => hj (r.inj j i p (z ▸ h1) hO)
      exact ⟨h1, h2, h4.mono (fun _ z => z) k fun o z _ => by rw [upd_ne nq]; exact z⟩
  · by_cases e : q = p
    · subst e; exact ⟨o', upd_same, hw⟩
    · obtain ⟨o, z, w⟩ := r.trk j q a
      exact ⟨o, by rw [upd_ne e]; exact z, w⟩
theorem PostS.trans {D : Ends} {r : DRes} (f : Fm O H O1 H1) (h : PostS K mg B O H D r) : PostS K mg B O1 H1 D r := by
  cases r with
  | nx e => exact fun σ' H' O' q g => h σ' H' O' q (f.trans g)
  | bk e => exact fun σ' H' O' q g => h σ' H' O' q (f.trans g)
  | ct e => exact fun σ' H' O' q g => h σ' H' O' q (f.trans g)
  | ret d => exact h
mutual
def tgR (K : PySem.W.Frag) : Tg → TG
  | .n i => gName i
  | .t l => gTup K l.length (tgRs K l)
def tgRs (K : PySem.W.Frag) : List Tg → TGs
  | [] => gNil
  | g :: gs => gCons (tgR K g) (tgRs K gs)
end
mutual
theorem gDs_len : ∀ {l : List Tg} {ds : List D} {e e' : DEnv}, gDs l ds e = some e' → ds.length = l.length
  | [], [], _, _, _ => rfl
  | [], _ :: _, _, _, h => by simp [gDs] at h
  | g :: gs, [], _, _, h => by simp [gDs] at h
  | g :: gs, d :: ds, _, _, h => by
    simp only [gDs] at h
    obtain ⟨e1, _, h2⟩ := bnd h
    exact congrArg (· + 1) (gDs_len h2)
end
def Only1 (σ σ' : L2.St) (ws : List Nat) : Prop := ∀ vs : List Nat, (∀ i ∈ ws, i ∈ vs) → wipe σ' vs = wipe σ vs
theorem wipe_set {σ : L2.St} {x : Option V} : ∀ {vs : List Nat} {i : Nat}, i ∈ vs → wipe (σ.set i x) vs = wipe σ vs
  | w :: ws, i, h => by
    unfold wipe
    by_cases e : i ∈ ws
    · rw [wipe_set e]
    · have hi : i = w := by simpa [e] using h
      subst hi
      clear h
      have : ∀ (us : List Nat), i ∉ us → wipe (σ.set i x) us = (wipe σ us).set i x := by
        intro us
        induction us with
        | nil => intro _; rfl
        | cons u us ih =>
          intro hn
          have h1 : i ≠ u := fun z => hn (by simp [z])
          have h2 : i ∉ us := fun z => hn (by simp [z])
          unfold wipe
          rw [ih h2, List.set_comm _ _ h1]
      rw [this ws e]
      rw [List.set_set]
mutual
theorem tgR_ok : ∀ (g : Tg) {O : Nat → Option Addr} {σ : L2.St} {env env' : DEnv} {v : V} {d : D} {H : Hp} {Q : L2.St → Hp → Prop}, ERel K mg B O σ H env → Rep mg (Lv B O false) H v d → gD g d env = some env' →
    (∀ σ' O', ERel K mg B O' σ' H env' → Fm O H O' H → Only1 σ σ' g.slots → Q σ' H) → tgR K g v σ H Q
  | .n i, O, σ, env, env', v, d, H, Q, r, rv, e, q => by
    simp only [gD, Option.some.injEq] at e
    subst e
    exact q _ _ (ERel.set r rv) (Fm.of_same (Same.refl H)).off fun vs hv => wipe_set (hv i (by simp [Tg.slots]))
  | .t l, O, σ, env, env', v, d, H, Q, r, rv, e, q => by
    cases d <;> simp only [gD, reduceCtorEq] at e
    rename_i xs
    cases rv with
    | tup hs rs =>
      refine ⟨_, _, rfl, .inl (.inl hs), by rw [rs.len]; exact gDs_len e, ?_⟩
      exact tgRs_ok l r rs e q
theorem tgRs_ok : ∀ (l : List Tg) {O : Nat → Option Addr} {σ : L2.St} {env env' : DEnv} {vs : List V} {ds : List D} {H : Hp} {Q : L2.St → Hp → Prop}, ERel K mg B O σ H env → Reps mg (Lv B O false) H vs ds → gDs l ds env = some env' →
    (∀ σ' O', ERel K mg B O' σ' H env' → Fm O H O' H → Only1 σ σ' (Tg.slotss l) → Q σ' H) → tgRs K l vs σ H Q
  | [], O, σ, env, env', vs, ds, H, Q, r, rs, e, q => by
    cases ds with
    | nil =>
      simp only [gDs, Option.some.injEq] at e
      subst e
      cases rs
      exact ⟨rfl, q _ _ r (Fm.of_same (Same.refl H)) fun _ _ => rfl⟩
    | cons _ _ => simp [gDs] at e
  | g :: gs, O, σ, env, env', vs, ds, H, Q, r, rs, e, q => by
    cases ds with
    | nil => simp [gDs] at e
    | cons d ds =>
      simp only [gDs] at e
      obtain ⟨e1, h1, h2⟩ := bnd e
      cases rs with
      | cons rv rs =>
        refine ⟨_, _, rfl, tgR_ok g r rv h1 fun σ1 O1 r1 f1 w1 => ?_⟩
        have keep : ∀ a, Lv B O false a → (∃ o, H a = some o) → Lv B O1 false a := fun a h ho => ⟨h.1, .inr fun j z => by
          rcases f1.sub j a z with ⟨i, q⟩ | q
          · exact h.2.elim (fun z => Bool.noConfusion z) (fun z => z i q)
          · obtain ⟨o, ho⟩ := ho; rw [q] at ho; cases ho⟩
        refine tgRs_ok gs r1 (Reps.keepT keep rs) h2 fun σ2 O2 r2 f2 w2 => q _ _ r2 (f1.trans f2) fun vs hv => ?_
        simp only [Tg.slotss, List.mem_append] at hv
        rw [w2 vs fun i hi => hv i (.inr hi), w1 vs fun i hi => hv i (.inl hi)]
end
end
section
variable {X : Cx} {τ : Bool}
theorem ss_nil : SSs X [] skip := pss_nil.weak fun D σ H ⟨B, O, env, r, rl, h1, q⟩ => by
  cases h1
  exact q σ H O rl (Fm.of_same (Same.refl H))
theorem seq_of {K : PySem.W.Frag} {mg : Str → Option Value} {D : Ends} {σ : L2.St} {H : Hp} {a b : Sx} (h : tS K mg (sq a b) D σ H) : tSeq (tS K mg a) (tS K mg b) D σ H := by
  obtain ⟨B, O, env, r, rl, h1, q⟩ := h
  obtain ⟨ra, ha, h2⟩ := bnd h1
  refine ⟨B, O, env, ra, rl, ha, ?_⟩
  cases ra with
  | nx e' => exact fun σ' H' O' rl' f => ⟨B, O', e', r, rl', h2, q.trans f⟩
  | bk e' => cases h2; exact q
  | ct e' => cases h2; exact q
  | ret d => cases h2; exact q
theorem ss_cons {st : Stmt} {rest : List Stmt} {a b : Sx} (h1 : SS X st a) (h2 : SSs X rest b) : SSs X (st :: rest) (sq a b) := (pss_cons h1 h2).weak fun _ _ _ h => seq_of h
theorem ss_one {st : Stmt} {a : Sx} (h1 : SS X st a) : SSs X [st] a := pss_one h1
theorem s_ret {e : Expr} {de : Ex} {pos : Pos} (he : SE X true e de) (hn : RT.nw = false := by rfl) : SS X (.Return (some e) pos) (rt de) := (ps_ret he).weak fun D σ H ⟨B, O, env, r, rl, h1, q⟩ => by
  obtain ⟨d, hd, h2⟩ := bnd h1
  cases h2
  exact ⟨B, O, env, d, rl, hd, fun v H' s rv => q v H' (rl.same.trans s) (retP_of hn (rv.mono (fun _ z => ⟨z.1, .inl rfl⟩) keepRefl))⟩
theorem s_if {c : Expr} {a b : List Stmt} {t : Tx} {da db : Sx} {pos : Pos} (hc : ST X c t) (ha : SSs X a da) (hb : SSs X b db) : SS X (.If c a b pos) (ifS t da db) := (ps_if hc ha hb).weak fun D σ H ⟨B, O, env, r, rl, h1, q⟩ => by
  obtain ⟨d, hd, h2⟩ := bnd h1
  refine ⟨B, O, env, d, rl, hd, fun H' s => ?_⟩
  cases d with
  | true => exact iteT ⟨B, O, env, r, rl.heap s, h2, q.trans (Fm.of_same s)⟩
  | false => exact iteF ⟨B, O, env, r, rl.heap s, h2, q.trans (Fm.of_same s)⟩
def PT1 (X : Cx) (tg : Expr) (g : Tg) : Prop := PG X tg (tgR X.K g)
theorem g_n (i : Nat) {x : Str} {pos : Pos} (hN : X.N.Nodup) (hi : X.N[i]? = some x := by rfl) (hx : Loc X.env.scope x := by first | exact Or.inl rfl | exact Or.inr rfl) (hf : X.fn x = true ∨ X.env.scope.names.lookup x = some .local := by first | exact .inl rfl | exact .inr rfl | assumption) : PT1 X (.Name x pos) (.n i) := pg_name hN hi hx hf
theorem s_set {i : Nat} {x : Str} {e : Expr} {de : Ex} {pos pos' : Pos} (hN : X.N.Nodup) (he : SE X false e de) (hi : X.N[i]? = some x := by rfl) (hx : Loc X.env.scope x := by first | exact Or.inl rfl | exact Or.inr rfl) (hs : swapsWith e (some (.Name x pos')) pos.line X.env = pure false := by rfl) (hf : X.fn x = true ∨ X.env.scope.names.lookup x = some .local := by first | exact .inl rfl | exact .inr rfl | assumption) :
    SS X (.Assign [.Name x pos'] e pos) (setE i de) := (ps_set hN hi hx he hs hf).weak fun D σ H ⟨B, O, env, r, rl, h1, q⟩ => by
  obtain ⟨d, hd, h2⟩ := bnd h1
  cases h2
  exact ⟨B, O, env, d, rl, hd, fun v H1 s rv => q _ H1 _ (ERel.set (rl.heap s) rv) ((Fm.of_same s).trans (Fm.of_same (Same.refl H1)).off)⟩
theorem s_new {i : Nat} {x : Str} {e : Expr} {de : Ex} {pos pos' : Pos} (hN : X.N.Nodup) (he : SN X e de) (hi : X.N[i]? = some x := by rfl) (hx : Loc X.env.scope x := by first | exact Or.inl rfl | exact Or.inr rfl) (hs : swapsWith e (some (.Name x pos')) pos.line X.env = pure false := by rfl) (hf : X.fn x = true ∨ X.env.scope.names.lookup x = some .local := by first | exact .inl rfl | exact .inr rfl | assumption) :
    SS X (.Assign [.Name x pos'] e pos) (newE i de) := (ps_set hN hi hx he hs hf).weak fun D σ H ⟨B, O, env, r, rl, h1, q⟩ => by
  obtain ⟨d, hd, h2⟩ := bnd h1
  cases h2
  exact ⟨B, O, env, d, rl, hd, fun p H1 s hp o => let z := ERel.setOwn (i := i) rl s hp o; q _ H1 _ z.1 z.2⟩
theorem fm_keep {K : PySem.W.Frag} {mg : Str → Option Value} {B : Bs} {H H' : Hp} {O O' : Nat → Option Addr} {σ : L2.St} {env : DEnv} (rl : ERel K mg B O σ H env) (f : Fm O H O' H') : Keep (Lv B O false) H H' := by
  have out : ∀ a, Lv B O false a → ∀ j, O j ≠ some a := fun a h => h.2.elim (fun z => Bool.noConfusion z) fun z => z
  refine ⟨fun a u ha _ h => ?_, fun a C dx fs ha h => f.keep a _ (out a ha) h, fun a xs ha h => f.keep a _ (out a ha) h, fun a xs h => ?_, fun a ob xs h => ?_⟩
  · rcases h with h | ⟨o, h⟩
    · exact .inl (f.keep a _ (out a ha) h)
    · exact .inr ⟨o, f.keep a _ (out a ha) h⟩
  · have nt : ∀ j, O j ≠ some a := fun j e => by
      obtain ⟨o, z, w⟩ := rl.trk j a e
      rw [h] at z; cases z; exact w
    exact f.keep a _ nt h
  · have nt : ∀ j, O j ≠ some a := fun j e => by
      obtain ⟨o, z, w⟩ := rl.trk j a e
      rw [h] at z; cases z; exact w
    exact f.keep a _ nt h
theorem lv_sub {B : Bs} {H H' : Hp} {O O' : Nat → Option Addr} {a : Addr} (f : Fm O H O' H') (h : Lv B O false a) (ho : ∃ o, H a = some o) : Lv B O' false a := ⟨h.1, .inr fun j z => by
  rcases f.sub j a z with ⟨i, q⟩ | q
  · exact h.2.elim (fun z => Bool.noConfusion z) (fun z => z i q)
  · obtain ⟨o, ho⟩ := ho; rw [q] at ho; cases ho⟩
theorem s_for {tg iter : Expr} {body : List Stmt} {di : Ax} {g : Tg} {db : Sx} {pos : Pos} (hp : PassesOwn (model X.prog X.w) X.A X.env X.xe) (hc : X.calm = true) (hi : SI X tg iter di) (hg : PT1 X tg g) (hb : SSs X body db)
    (hs : ∀ x, foldedSetIterable iter X.env x = pure x := by intro _; rfl) : SS X (.For tg iter body [] pos) (forE di g db) := (ps_for hp hc hi hg hb hs).weak fun D σ H ⟨B, O, env, r, rl, h1, q⟩ => by
  obtain ⟨ds, hd, h2⟩ := bnd h1
  refine ⟨B, O, env, ds, rl, hd, fun J H1 s1 wk => ?_⟩
  have rl1 := rl.heap s1
  have q1 := q.trans (Fm.of_same s1)
  refine ⟨fun i m σ' H' => m = ds.length - i ∧ i ≤ ds.length ∧ ∃ O' env', ERel X.K X.mg B O' σ' H' env' ∧ Fm O H1 O' H' ∧ loop (gD g) db (ds.drop i) env' = some r, ⟨ds.length, by simp, Nat.zero_le _, O, env, rl1, Fm.of_same (Same.refl H1), by simpa using h2⟩, ?_⟩
  rintro i m σ' H' ⟨rfl, hi', O', env', rl', f', hl⟩
  have kp : Keep (fun a => Lv B O false a ∧ ∃ o, H1 a = some o) H1 H' := let k := fm_keep rl1 f'; ⟨fun a u ha _ h => k.rd a u ha.1 h, fun a C dx fs ha h => k.ins a C dx fs ha.1 h, fun a xs ha h => k.lst a xs ha.1 h, k.tup, k.fz⟩
  by_cases hlt : i < ds.length
  · have hx : ds[i]? = some ds[i] := List.getElem?_eq_getElem hlt
    obtain ⟨go, yl⟩ := (wk i H' kp).1 _ hx
    rw [List.drop_eq_getElem_cons hlt] at hl
    unfold loop at hl
    obtain ⟨e1, he1, hl⟩ := bnd hl
    obtain ⟨r1, hr1, hl⟩ := bnd hl
    refine .inr ⟨go, fun σ'' H'' => ∃ O'' env'', ERel X.K X.mg B O'' σ'' H'' env'' ∧ Fm O H1 O'' H'' ∧ loop (gD g) db (ds.drop (i + 1)) env'' = some r, fun σ'' H'' ⟨O'', env'', z⟩ => ⟨ds.length - (i + 1), by omega, rfl, hlt, O'', env'', z⟩, fun v H3 y => ?_⟩
    obtain ⟨s3, rv⟩ := yl v H3 y
    have rl3 := rl'.heap s3
    have f3 := f'.trans (Fm.of_same s3)
    have rv' : Rep X.mg (Lv B O' false) H3 v ds[i] := by
      exact rv.mono (fun a ha => lv_sub f' ha.1 ha.2) keepRefl
    refine tgR_ok g rl3 rv' he1 fun σ4 O4 r4 f4 _ => ⟨B, O4, e1, r1, r4, hr1, ?_⟩
    have f5 := f3.trans f4
    cases r1 with
    | nx e2 => exact fun σ6 H6 O6 rl6 f6 => ⟨O6, e2, rl6, f5.trans f6, hl⟩
    | ct e2 => exact fun σ6 H6 O6 rl6 f6 => ⟨O6, e2, rl6, f5.trans f6, hl⟩
    | bk e2 =>
      cases hl
      exact fun σ6 H6 O6 rl6 f6 => q1 σ6 H6 O6 rl6 (f5.trans f6)
    | ret d =>
      cases hl
      exact q1
  · have hn : ds[i]? = none := List.getElem?_eq_none (by omega)
    have hdr : ds.drop i = [] := List.drop_eq_nil_of_le (by omega)
    rw [hdr] at hl
    unfold loop at hl
    cases hl
    exact .inl ⟨(wk i H' kp).2 hn, q1 σ' H' O' rl' f'⟩
end
end PV

namespace PV
variable [LT] [RT]
open PySem PySem.Spec PyProof.Rows L2
theorem start_get {N : List Str} {vs : List V} {ds : List D} (hv : vs.length = ds.length) (hN : ds.length ≤ N.length) :
    (ds.map DSlot.val ++ List.replicate (N.length - ds.length) DSlot.no).length = (L2.start N vs).length := by
  unfold L2.start
  simp [hv]
theorem erel_start {K : PySem.W.Frag} {mg : Str → Option Value} {A : Addr → Prop} {H : Hp} {N : List Str} {vs : List V} {ds : List D} (sf : Addr) (fr : Fr A H) (r : Reps mg A H vs ds) (hN : ds.length ≤ N.length) :
    ERel K mg ⟨H, A, sf, fr.tb⟩ (fun _ => none) (L2.start N vs) H (ds.map DSlot.val ++ List.replicate (N.length - ds.length) DSlot.no) := by
  have own : ∀ (i : Nat) (x : DSlot), (ds.map DSlot.val ++ List.replicate (N.length - ds.length) DSlot.no)[i]? = some x → (∃ d, x = .val d ∧ ds[i]? = some d ∧ i < ds.length) ∨ x = .no := fun i x e => by
    by_cases hi : i < ds.length
    · rw [List.getElem?_append_left (by simpa using hi), List.getElem?_map, List.getElem?_eq_getElem hi] at e
      exact .inl ⟨ds[i], (Option.some.inj e).symm, List.getElem?_eq_getElem hi, hi⟩
    · rw [List.getElem?_append_right (by simpa using hi), List.getElem?_replicate] at e
      split at e
      · exact .inr (Option.some.inj e).symm
      · cases e
  refine ⟨start_get r.len hN, Same.refl H, fun i d e => ?_, fun i d e => ?_, fun i d e => ?_, fun i j p a _ => (nomatch a), fun i p a => (nomatch a), fun i p a => (nomatch a), ⟨0, fun _ _ => rfl⟩, fun i p a => (nomatch a)⟩
  · rcases own i _ e with ⟨d', e2, e3, hi⟩ | e2
    · cases e2
      obtain ⟨v, h1, h2⟩ := r.get e3
      refine ⟨v, ?_, h2.mono (fun a h => ⟨.inl h, .inr fun j z => by cases z⟩) keepRefl⟩
      unfold L2.start
      rw [List.getElem?_append_left (by rw [List.length_map, r.len]; exact hi), List.getElem?_map, h1]
      rfl
    · cases e2
  · rcases own i _ e with ⟨d', e2, _⟩ | e2 <;> cases e2
  · rcases own i _ e with ⟨d', e2, _⟩ | e2 <;> cases e2
section
variable {P : Program} {w : World} {K : PySem.W.Frag} {mg : Str → Option Value} {base : Heap}
theorem fn_sound {x qual : Str} {args : Arguments} {body : List Stmt} {sc : Scope} {f : Addr} {fd : FuncData} {N ps : List Str} {k : Nat} {db : Sx} (F : FunD K x qual args body sc [] [] f fd) (S : FnScope N ps sc)
    (hb : ∀ (cdv : Value) (A : Around) (outer : List Env) (s : Shared) (H : Hp), Room k (A.deeper (envOfC qual sc s.heap.objs.size f cdv)) → SSs (cxOf CX0 P w K mg base N qual sc f cdv A outer s H E0).nox body db) (hso : RT.so = false := by rfl) :
    FnOk P w K mg base CX0 (k + 1) f fd ps (spD mg (fnc ps.length N.length db)) := by
  have hpl : ps.length ≤ N.length := by have := congrArg List.length S.pre; rw [List.length_take] at this; omega
  refine F.ok S (fun vs H Q E h => ?_) fun cdv A outer s H vs Q E hr h => ?_
  · obtain ⟨A, ds, d, fr, r, e, q⟩ := h
    unfold fnc at e
    split at e
    · rename_i hl; rw [r.len, hl]
    · cases e
  · refine ⟨tS K mg db, PSs.nox (hb cdv A outer s H hr), ?_⟩
    obtain ⟨A1, ds, d, fr, r, e, q⟩ := h
    unfold fnc at e
    split at e
    · rename_i hl
      obtain ⟨rs, h1, h2⟩ := bnd e
      have rl := erel_start (K := K) (N := N) 0 fr r (by rw [hl]; exact hpl)
      refine ⟨_, _, _, rs, rl, by rw [hl]; exact h1, ?_⟩
      cases rs with
      | nx e' =>
        cases h2
        exact fun σ' H' O' rl' f' => q _ H' rl'.same .non
      | ret d' =>
        cases h2
        exact fun v H' s' rv => q v H' s' ((retP_rep hso rv).mono (fun a h => h.1.elim id fun z => fr a z) keepRefl)
      | bk e' => cases h2
      | ct e' => cases h2
    · cases e
structure CallOk (P : Program) (w : World) (K : PySem.W.Frag) (mg : Str → Option Value) (base : Heap) (k : Nat) (x : Str) (F : Fn) : Prop where
  ex : ∃ f fd ps, FnOk P w K mg base CX0 k f fd ps (spD mg F) ∧ mg x = some (.ref f) ∧ PySem.W.keepIn K (.ref f) = true ∧ Binds K fd ps []
theorem CallOk.up {j k : Nat} {x : Str} {F : Fn} (c : CallOk P w K mg base j x F) (h : j ≤ k) : CallOk P w K mg base k x F :=
  let ⟨f, fd, ps, a, b, c, d⟩ := c.ex; ⟨f, fd, ps, a.mono h, b, c, d⟩
structure MethOk (P : Program) (w : World) (K : PySem.W.Frag) (mg : Str → Option Value) (base : Heap) (k : Nat) (c m : Str) (F : Fn) : Prop where
  ex : ∃ C f fd ps, FnOk P w K mg base CX0 k f fd ps (spD mg F) ∧ mg c = some (.ref C) ∧ Cls K C ∧ Meth K C m f ∧ Binds K fd ps []
structure AtOk (K : PySem.W.Frag) (mg : Str → Option Value) (c f : Str) : Prop where
  ex : ∃ C, mg c = some (.ref C) ∧ Cls K C ∧ NoAttr K C f
end
section
variable {X : Cx} {τ : Bool}
theorem se_cal {k : Nat} {x : Str} {F : Fn} {e : Expr} {es : List Expr} {da : Ax} {p pos : Pos} (c : CallOk X.prog X.w X.K X.mg X.base k x F) (hr : Room k X.A) (ha : SA X τ (e :: es) da) (hg : Gl X x := by rfl)
    (hdb : (x == ("__debug__" : Str)) = false := by decide) (he : starEach (e :: es) X.env = (false, eval e X.env) :: starEach es X.env := by rfl) (hpl : (backTo pos (starEach es X.env)).any (·.1) = false := by rfl) :
    SE X τ (.Call (.Name x p) (e :: es) [] pos) (cal F da) := by
  obtain ⟨f, fd, ps, G, hm, hk, hb⟩ := c.ex
  refine (pe_call G hr hg hm hk hb .nil pass0 ha hdb he hpl).weak fun σ H Q ⟨B, O, env, d, rl, h1, q⟩ => ?_
  obtain ⟨ds, hd, h2⟩ := bnd h1
  refine ⟨B, O, env, ds, rl, hd, fun vs H1 s1 r1 => ?_⟩
  show rC X.mg F (vs ++ []) H1 Q
  rw [List.append_nil]
  exact ⟨_, ds, d, (rl.heap s1).fr, r1, h2, fun v H' s' rv => q v H' (s1.trans s') rv⟩
theorem se_fld {cs : List Str} {f : Str} {e : Expr} {de : Ex} {pos : Pos} (hc : ∀ c ∈ cs, AtOk X.K X.mg c f) (he : SE X τ e de) (hb : attributeBase e f X.env (eval e X.env) = eval e X.env := by rfl) : SE X τ (.Attribute e f pos) (fld cs f de) := (pe_fld he hb).weak fun σ H Q ⟨B, O, env, d, rl, h1, q⟩ => by
  obtain ⟨x, hx, h2⟩ := bnd h1
  refine ⟨B, O, env, x, rl, hx, fun v H1 s1 r1 => ?_⟩
  cases x <;> simp only [attr, reduceCtorEq] at h2
  rename_i c fs xs
  split at h2
  · rename_i hm
    cases r1
    rename_i a C dx fs' ha hH hmg rs
    obtain ⟨C', e1, e2, e3⟩ := (hc _ hm).ex
    rw [hmg] at e1; cases e1
    have key : ∀ (fs' : List (Str × V)) (xs : List D), Reps X.mg (Lv B O τ) H1 (fs'.map (·.2)) xs → ((fs'.map (·.1)).zip xs).lookup f = some d → ∃ v, fs'.lookup f = some v ∧ Rep X.mg (Lv B O τ) H1 v d := by
      intro fs'
      induction fs' with
      | nil => intro xs _ e; simp at e
      | cons p r ih =>
        intro xs rs e
        cases rs with
        | cons rv rt =>
          simp only [List.map_cons, List.zip_cons_cons, List.lookup] at e
          simp only [List.lookup]
          split at e
          · rename_i hb
            cases e
            (try rw [hb])
            exact ⟨_, rfl, rv⟩
          · rename_i hb
            (try rw [hb])
            exact ih _ rt e
    obtain ⟨v', h3, h4⟩ := key fs' xs rs h2
    exact ⟨a, C, dx, fs', v', rfl, hH, e2, e3, h3, q v' H1 s1 h4⟩
  · cases h2
end
end PV

namespace PV
variable [LT] [RT]
open PySem PySem.Spec PyProof.Rows L2
structure SameX (x : Addr) (H H' : Hp) : Prop where
  stay : ∀ (b : Addr) (o : HO), b ≠ x → H b = some o → [NT o] → H' b = some o
  tab : LamX.Tabs LT.T H → LamX.Tabs LT.T H'
  dom : ∀ b, H' b = none → H b = none
theorem SameX.after {x : Addr} {H H1 H' : Hp} (e : SameX x H1 H') (s : Same H H1) (hx : H x = Option.none) : Same H H' := ⟨fun b o z => e.stay b o (ne_of_none z hx) (s b o z), fun t => e.tab (s.tab t), fun b z => s.dom b (e.dom b z)⟩
def spI (mg : Str → Option Value) (c : Str) (F : Fn) : Sp := fun vs H Q _ => ∃ (x dx C : Addr) (us : List V) (A : Addr → Prop) (ds : List D) (fs : List Str) (xs : List D), vs = .ref x :: us ∧ H x = some (.ins C dx []) ∧ mg c = some (.ref C) ∧ Fr A H ∧
  Reps mg (fun a => A a ∧ a ≠ x) H us ds ∧ F ds = some (.ins c fs xs) ∧ ∀ H', SameX x H H' → Own mg (fun a => A a ∧ a ≠ x) H' x (.ins c fs xs) → Q .non H'
theorem ERel.writeS {K : PySem.W.Frag} {mg : Str → Option Value} {B : Bs} {H : Hp} {O : Nat → Option Addr} {σ : L2.St} {env : DEnv} {i : Nat} {o' : HO} {d' : D} (r : ERel K mg B O σ H env) (hO : O i = some B.sf) (hs : σ[i]? = some (some (.ref B.sf)))
    (ho : Own mg (Lv B O false) (upd H B.sf o') B.sf d') (hw : Wr o') :
    ERel K mg B O σ (upd H B.sf o') (env.set i (.slf d')) ∧ Fm O H O (upd H B.sf o') := by
  have k : Keep (Lv B O false) H (upd H B.sf o') := keep_write r hO
  have h0 := r.fr0 i B.sf hO
  obtain ⟨o0, hp0, w0⟩ := r.trk i B.sf hO
  refine ⟨⟨by simp [r.len], ⟨fun b o e _ => ?_, fun t p2 hp2 => tabS_upd hp0 w0 (r.same.tab t p2 hp2), fun b h => r.same.dom b (dom_upd h)⟩, fun j d2 e => ?_, fun j d2 e => ?_, fun j d2 e => ?_, r.inj, fun j q a => ?_, r.fr0, r.bd, fun j q a hj => by
    by_cases ej : j = i
    · subst ej
      exact ⟨d', .inr (List.getElem?_set_self (by simpa using hj))⟩
    · rw [List.getElem?_set_ne (Ne.symm ej)]
      exact r.nst j q a (by simpa using hj)⟩, ⟨fun b o hb e _ => by rw [upd_ne (fun z => hb i (by rw [z]; exact hO))]; exact e, fun t p2 hp2 => tabS_upd hp0 w0 (t p2 hp2), fun b h => dom_upd h, fun j b e => .inl ⟨j, e⟩⟩⟩
  · rw [upd_ne (ne_of_none e h0)]; exact r.same b o e
  · rcases get_set e with ⟨rfl, e2, hl⟩ | ⟨hj, e2⟩
    · cases e2
    · obtain ⟨w, h1, h2⟩ := r.vals j d2 e2
      exact ⟨w, h1, h2.mono (fun _ z => z) k⟩
  · rcases get_set e with ⟨rfl, e2, hl⟩ | ⟨hj, e2⟩
    · cases e2
    · obtain ⟨q, h1, h2, h3, h4⟩ := r.owns j d2 e2
      have nq : q ≠ B.sf := fun z => hj (r.inj j i B.sf (z ▸ h1) hO)
      exact ⟨q, h1, h2, h3, h4.mono (fun _ z => z) k fun o z _ => by rw [upd_ne nq]; exact z⟩
  · rcases get_set e with ⟨rfl, e2, hl⟩ | ⟨hj, e2⟩
    · cases e2
      exact ⟨hO, hs, ho⟩
    · obtain ⟨h1, h2, h4⟩ := r.slfs j d2 e2
      exact absurd (r.inj j i B.sf h1 hO) hj
  · by_cases e : q = B.sf
    · subst e; exact ⟨o', upd_same, hw⟩
    · obtain ⟨o, z, w⟩ := r.trk j q a
      exact ⟨o, by rw [upd_ne e]; exact z, w⟩
theorem putF_map {mg : Str → Option Value} {A : Addr → Prop} {H : Hp} {f : Str} {v : V} {d : D} (hv : Rep mg A H v d) : ∀ (fs : List (Str × V)) (xs : List D), Reps mg A H (fs.map (·.2)) xs →
    (L2.putF f v fs).map (·.1) = (putFD f d (fs.map (·.1)) xs).1 ∧ Reps mg A H ((L2.putF f v fs).map (·.2)) (putFD f d (fs.map (·.1)) xs).2
  | [], xs, r => by
    cases r
    exact ⟨rfl, .cons hv .nil⟩
  | (g, x) :: fs, xs, r => by
    cases r with
    | cons h t =>
      obtain ⟨i1, i2⟩ := putF_map hv fs _ t
      unfold L2.putF
      simp only [List.map_cons, putFD]
      by_cases e : g = f
      · rw [if_pos e, if_pos e]
        exact ⟨rfl, .cons hv t⟩
      · rw [if_neg e, if_neg e]
        exact ⟨congrArg (List.cons g) i1, .cons h i2⟩
section
variable {X : Cx} {τ : Bool}
theorem s_setF {i : Nat} {c f y : Str} {e : Expr} {de : Ex} {pos pos' py : Pos} (hc : AtOk X.K X.mg c f) (he : SE X false e de) (hN : X.N[i]? = some y := by rfl) (hv : Vis X.env.scope y := by first | exact Or.inl rfl | exact Or.inr (Or.inl rfl) | exact Or.inr (Or.inr rfl)) (hd : (y == ("__debug__" : Str)) = false := by decide)
    (hcd : (y == ("__classdict__" : Str)) = false := by decide) (hs : swapsWith e (some (.Attribute (.Name y py) f pos')) pos.line X.env = pure false := by rfl) : SS X (.Assign [.Attribute (.Name y py) f pos'] e pos) (setF i c f de) := (ps_fld (pe_var hN hv hd hcd) he hs).weak fun D σ H ⟨B, O, env, r, rl, h1, q⟩ => by
  obtain ⟨d, hd, h2⟩ := bnd h1
  refine ⟨B, O, env, d, rl, hd, fun v H1 s1 r1 => ?_⟩
  split at h2
  · rename_i c' fs xs hi
    split at h2
    · rename_i hcc
      obtain ⟨rfl, hl1, hl2⟩ := hcc
      cases h2
      obtain ⟨g1, g2, g3⟩ := (rl.heap s1).slfs i _ hi
      obtain ⟨C', e1, e2, e3⟩ := hc.ex
      cases g3
      rename_i C dx fs' hH hmg rs
      rw [hmg] at e1
      obtain rfl : C = C' := by injection e1 with e1; injection e1
      refine ⟨_, g2, B.sf, C, dx, fs', rfl, hH, e2, e3, by simpa using hl1, ?_⟩
      obtain ⟨p1, p2⟩ := putF_map (f := f) r1 fs' xs rs
      have z := ERel.writeS (o' := .ins C dx (L2.putF f v fs')) (d' := .ins c' (putFD f d (fs'.map (·.1)) xs).1 (putFD f d (fs'.map (·.1)) xs).2) (rl.heap s1) g1 g2 (by
        rw [← p1]
        exact .ins upd_same hmg (p2.mono (fun _ z => z) (keep_write (rl.heap s1) g1))) trivial
      exact q σ _ O z.1 ((Fm.of_same s1).trans z.2)
    · cases h2
  · cases h2
end
section
variable {P : Program} {w : World} {K : PySem.W.Frag} {mg : Str → Option Value} {base : Heap}
structure MakeOk (P : Program) (w : World) (K : PySem.W.Frag) (mg : Str → Option Value) (base : Heap) (k : Nat) (c : Str) (F : Fn) : Prop where
  ex : ∃ C f fd ps, FnOk P w K mg base CX0 k f fd ps (spI mg c F) ∧ mg c = some (.ref C) ∧ Mk K C f ∧ Binds K fd ps []
end
end PV

namespace PV
variable [LT] [RT]
open PySem PySem.Spec PyProof.Rows L2
mutual
def toP : D → PyData
  | .non => .none
  | .bl b => .bool b
  | .int i => .int i
  | .str x => .str x
  | .tup xs => .tuple (toPs xs)
  | .ftup xs => .tuple (toPs xs)
  | .lst xs => .list (toPs xs)
  | _ => .none
def toPs : List D → List PyData
  | [] => []
  | x :: xs => toP x :: toPs xs
end
mutual
theorem plain_dp {K : PySem.W.Frag} {mg : Str → Option Value} {A : Addr → Prop} {H : Hp} : ∀ {n : Nat} {v : V} {d : D}, D.plain n d = true → Rep mg A H v d → Dp K H v (toP d)
  | _, _, _, _, .non => .non
  | _, _, _, _, .bl b => .bl b
  | _, _, _, _, .int i => .int i
  | _, _, _, _, .str x => .str x
  | 0, _, _, e, .tup h r => by simp [D.plain] at e
  | n + 1, _, _, e, .tup h r => .tup (.inl (.inl h)) (plains_dp (n := n) (by simpa [D.plain] using e) r)
  | 0, _, _, e, .ftup h d r => by simp [D.plain] at e
  | n + 1, _, _, e, .ftup h d r => .tup (.inl (.inr ⟨_, h⟩)) (plains_dp (n := n) (by simpa [D.plain] using e) r)
  | 0, _, _, e, .lst a h r => by simp [D.plain] at e
  | n + 1, _, _, e, .lst a h r => .lst (.inl (.inl h)) (plains_dp (n := n) (by simpa [D.plain] using e) r)
  | _, _, _, e, .scr .. => by simp [D.plain] at e
  | _, _, _, e, .dicK .. => by simp [D.plain] at e
  | _, _, _, e, .dicT .. => by simp [D.plain] at e
  | _, _, _, e, .ins .. => by simp [D.plain] at e
theorem plains_dp {K : PySem.W.Frag} {mg : Str → Option Value} {A : Addr → Prop} {H : Hp} : ∀ {n : Nat} {v : List V} {d : List D}, D.plains n d = true → Reps mg A H v d → DpAll K H v (toPs d)
  | _, _, _, _, .nil => .nil
  | n, _, _, e, .cons h t => by
    simp only [D.plains, Bool.and_eq_true] at e
    exact .cons (plain_dp e.1 h) (plains_dp e.2 t)
end
mutual
theorem plain_lay : ∀ {n : Nat} {d : D}, D.plain n d = true → PyData.canLay0 (toP d) = true ∧ PyData.depth (toP d) ≤ n
  | n, .non, _ => by simp [toP, PyData.canLay0, PyData.depth]
  | n, .bl _, _ => by simp [toP, PyData.canLay0, PyData.depth]
  | n, .int _, _ => by simp [toP, PyData.canLay0, PyData.depth]
  | n, .str x, e => by
    simp only [D.plain] at e
    simp only [toP, PyData.canLay0, PyData.depth]
    exact ⟨e, Nat.zero_le _⟩
  | 0, .tup xs, e => by simp [D.plain] at e
  | n + 1, .tup xs, e => by
    have z := plains_lay (n := n) (d := xs) (by simpa [D.plain] using e)
    simp only [toP, PyData.canLay0, PyData.depth]
    exact ⟨z.1, Nat.succ_le_succ z.2⟩
  | 0, .ftup xs, e => by simp [D.plain] at e
  | n + 1, .ftup xs, e => by
    have z := plains_lay (n := n) (d := xs) (by simpa [D.plain] using e)
    simp only [toP, PyData.canLay0, PyData.depth]
    exact ⟨z.1, Nat.succ_le_succ z.2⟩
  | 0, .lst xs, e => by simp [D.plain] at e
  | n + 1, .lst xs, e => by
    have z := plains_lay (n := n) (d := xs) (by simpa [D.plain] using e)
    simp only [toP, PyData.canLay0, PyData.depth]
    exact ⟨z.1, Nat.succ_le_succ z.2⟩
  | _, .scr _, e => by simp [D.plain] at e
  | _, .dic _ _ _, e => by simp [D.plain] at e
  | _, .ins _ _ _, e => by simp [D.plain] at e
theorem plains_lay : ∀ {n : Nat} {d : List D}, D.plains n d = true → PyData.canLayAll0 (toPs d) = true ∧ PyData.depthAll (toPs d) ≤ n
  | n, [], _ => by simp [toPs, PyData.canLayAll0, PyData.depthAll]
  | n, x :: xs, e => by
    simp only [D.plains, Bool.and_eq_true] at e
    have h1 := plain_lay e.1
    have h2 := plains_lay e.2
    simp only [toPs, PyData.canLayAll0, PyData.depthAll, Bool.and_eq_true]
    exact ⟨⟨h1.1, h2.1⟩, Nat.max_le.mpr ⟨h1.2, h2.2⟩⟩
end
theorem plain_shaped {n : Nat} {d : D} (h : D.plain n d = true) (hn : n ≤ 64) : SeqAt.shaped (toP d) = true := by
  have z := plain_lay h
  unfold SeqAt.shaped
  rw [z.1, decide_eq_true (Nat.le_trans z.2 hn)]
  rfl
mutual
theorem eqv_toP : ∀ {n m : Nat} {a b : D}, D.plain n a = true → D.plain m b = true → PyData.eqv (toP a) (toP b) = D.eqv a b
  | n, m, a, b, ha, hb => by
    cases a <;> cases b <;> first
      | rfl
      | (simp [D.plain] at ha; done)
      | (simp [D.plain] at hb; done)
      | skip
    all_goals
      cases n <;> cases m <;> first
        | (simp [D.plain] at ha; done)
        | (simp [D.plain] at hb; done)
        | (simp only [D.plain] at ha hb
           simp only [toP, PyData.eqv, D.eqv]
           exact eqvs_toP ha hb)
theorem eqvs_toP : ∀ {n m : Nat} {a b : List D}, D.plains n a = true → D.plains m b = true → PyData.eqvAll (toPs a) (toPs b) = D.eqvs a b
  | n, m, [], [], _, _ => rfl
  | n, m, [], _ :: _, _, _ => rfl
  | n, m, _ :: _, [], _, _ => rfl
  | n, m, x :: xs, y :: ys, ha, hb => by
    simp only [D.plains, Bool.and_eq_true] at ha hb
    simp only [toPs, PyData.eqvAll, D.eqvs]
    rw [eqv_toP ha.1 hb.1, eqvs_toP ha.2 hb.2]
end
def rB (mg : Str → Option Value) (f : D → D → Option Bool) : R2 := fun x y H Q => ∃ A dx dy b, Rep mg A H x dx ∧ Rep mg A H y dy ∧ f dx dy = some b ∧ Q (.bl b) H
section
variable {X : Cx} {τ : Bool}
theorem nil_empty {mg : Str → Option Value} {A : Addr → Prop} {H : Hp} {xs : List V} {ds : List D} (t : Reps mg A H xs ds) (n : xs ≠ []) : ds.isEmpty = false := by
  cases ds
  · cases t; exact absurd rfl n
  · rfl
theorem op_addD : OpR X (binaryOp .Add) (rD X.mg addD) := by
  intro pins s σ H x y v u Q I rx ry ⟨A, dx, dy, d, fr, r1, r2, e, q⟩
  cases r1 <;> cases r2 <;> simp only [addD, reduceCtorEq] at e
  · cases e
    exact op_add pins s σ H _ _ v u Q I rx ry ⟨_, _, rfl, rfl, q _ H (Same.refl H) (.int _)⟩
  · split at e
    · rename_i hz
      cases e
      exact op_add_str pins s σ H _ _ v u Q I rx ry ⟨_, _, rfl, rfl, szL_ok hz, q _ H (Same.refl H) (.str _)⟩
    · cases e
  · split at e
    · rename_i a xs ds h1 t1 b ys es h2 t2 hz
      cases e
      refine op_catA pins s σ H _ _ v u Q I rx ry ⟨a, b, xs, ys, rfl, rfl, .inl (.inl h1), .inl (.inl h2), by rw [t1.len, t2.len]; exact szL_ok hz, fun e => ?_, fun _ e => ?_, fun _ _ p hp => ?_⟩
      · subst e
        cases t1
        exact q _ H (Same.refl H) (.tup h2 (by simpa using t2))
      · subst e
        cases t2
        exact q _ H (Same.refl H) (.tup h1 (by simpa using t1))
      · exact q _ _ (same_upd hp) (.tup upd_same ((t1.append t2).same (same_upd hp)))
    · cases e
  · split at e
    · rename_i a xs ds h1 t1 b ob ys es h2 f2 t2 hz
      cases e
      refine op_catA pins s σ H _ _ v u Q I rx ry ⟨a, b, xs, ys, rfl, rfl, .inl (.inl h1), .inl (.inr ⟨_, h2⟩), by rw [t1.len, t2.len]; exact szL_ok hz, fun e => ?_, fun n e => ?_, fun n _ p hp => ?_⟩
      · subst e
        cases t1
        exact q _ H (Same.refl H) (.ftup h2 f2 t2)
      · subst e
        cases t2
        simp only [nil_empty t1 n, Bool.false_eq_true, if_false] at q
        exact q _ H (Same.refl H) (.tup h1 (by simpa using t1))
      · simp only [nil_empty t1 n, Bool.false_eq_true, if_false] at q
        exact q _ _ (same_upd hp) (.tup upd_same ((t1.append t2).same (same_upd hp)))
    · cases e
  · split at e
    · rename_i a xs ds a1 h1 t1 b ys es a2 h2 t2 hz
      cases e
      exact op_cat pins s σ H _ _ v u Q I rx ry ⟨a, b, xs, ys, rfl, rfl, h1, h2, by rw [t1.len, t2.len]; exact szL_ok hz, fun p hp => q _ _ (same_upd hp) (.lst (fr p hp) upd_same ((t1.append t2).same (same_upd hp)))⟩
    · cases e
  · split at e
    · rename_i a ob xs ds h1 f1 t1 b ys es h2 t2 hz
      cases e
      refine op_catA pins s σ H _ _ v u Q I rx ry ⟨a, b, xs, ys, rfl, rfl, .inl (.inr ⟨_, h1⟩), .inl (.inl h2), by rw [t1.len, t2.len]; exact szL_ok hz, fun e => ?_, fun n e => ?_, fun n m p hp => ?_⟩
      · subst e
        cases t1
        exact q _ H (Same.refl H) (.tup h2 (by simpa using t2))
      · subst e
        cases t2
        simp only [nil_empty t1 n, Bool.not_false, List.isEmpty_nil, Bool.and_self, if_true] at q
        exact q _ H (Same.refl H) (.ftup h1 f1 t1)
      · simp only [nil_empty t2 m, Bool.and_false, Bool.false_eq_true, if_false] at q
        exact q _ _ (same_upd hp) (.tup upd_same ((t1.append t2).same (same_upd hp)))
    · cases e
  · split at e
    · rename_i a ob xs ds h1 f1 t1 b ob2 ys es h2 f2 t2 hz
      cases e
      refine op_catA pins s σ H _ _ v u Q I rx ry ⟨a, b, xs, ys, rfl, rfl, .inl (.inr ⟨_, h1⟩), .inl (.inr ⟨_, h2⟩), by rw [t1.len, t2.len]; exact szL_ok hz, fun e => ?_, fun n e => ?_, fun n m p hp => ?_⟩
      · subst e
        cases t1
        exact q _ H (Same.refl H) (.ftup h2 f2 t2)
      · subst e
        cases t2
        simp only [nil_empty t1 n, List.isEmpty_nil, Bool.false_eq_true, if_false, if_true] at q
        exact q _ H (Same.refl H) (.ftup h1 f1 t1)
      · simp only [nil_empty t1 n, nil_empty t2 m, Bool.false_eq_true, if_false] at q
        exact q _ _ (same_upd hp) (.tup upd_same ((t1.append t2).same (same_upd hp)))
    · cases e
theorem op_subD : OpR X (binaryOp .Sub) (rD X.mg subD) := by
  intro pins s σ H x y v u Q I rx ry ⟨A, dx, dy, d, fr, r1, r2, e, q⟩
  cases r1 <;> cases r2 <;> simp only [subD, reduceCtorEq] at e
  cases e
  exact op_sub pins s σ H _ _ v u Q I rx ry ⟨_, _, rfl, rfl, q _ H (Same.refl H) (.int _)⟩
theorem b64_ok {a : Int} (h : b64 a = true) : -(2 ^ 64) < a ∧ a < 2 ^ 64 := by
  unfold b64 at h
  have h := of_decide_eq_true h
  by_cases z : a.natAbs = 0
  · omega
  · have := (Nat.log2_lt z).mp h
    omega
theorem b64_of {a : Int} (h : -(2 ^ 64) < a ∧ a < 2 ^ 64) : b64 a = true := by
  unfold b64
  refine decide_eq_true ?_
  by_cases z : a.natAbs = 0
  · rw [z]; decide
  · exact (Nat.log2_lt z).mpr (by omega)
theorem op_modD : OpR X (binaryOp .Mod) (rD X.mg modD) := by
  intro pins s σ H x y v u Q I rx ry ⟨A, dx, dy, d, fr, r1, r2, e, q⟩
  cases r1 <;> cases r2 <;> simp only [modD, reduceCtorEq] at e
  split at e
  · rename_i h
    cases e
    exact op_mod pins s σ H _ _ v u Q I rx ry ⟨_, _, rfl, rfl, h, q _ H (Same.refl H) (.int _)⟩
  · cases e
theorem op_divD : OpR X (binaryOp .FloorDiv) (rD X.mg divD) := by
  intro pins s σ H x y v u Q I rx ry ⟨A, dx, dy, d, fr, r1, r2, e, q⟩
  cases r1 <;> cases r2 <;> simp only [divD, reduceCtorEq] at e
  split at e
  · rename_i h
    simp only [Bool.and_eq_true, decide_eq_true_eq] at h
    cases e
    exact op_fdiv pins s σ H _ _ v u Q I rx ry ⟨_, _, rfl, rfl, h, q _ H (Same.refl H) (.int _)⟩
  · cases e
theorem op_powD : OpR X (binaryOp .Pow) (rD X.mg powD) := by
  intro pins s σ H x y v u Q I rx ry ⟨A, dx, dy, d, fr, r1, r2, e, q⟩
  cases r1 <;> cases r2 <;> simp only [powD, reduceCtorEq] at e
  split at e
  · rename_i h
    simp only [Bool.and_eq_true, decide_eq_true_eq] at h
    cases e
    exact op_pow pins s σ H _ _ v u Q I rx ry ⟨_, _, rfl, rfl, ⟨h.1.1, h.1.2, h.2⟩, q _ H (Same.refl H) (.int _)⟩
  · cases e
theorem op_eqDD (hu : X.A.units + 64 < cLine) : OpR X (compareOp .Eq) (rB X.mg eqD) := by
  intro pins s σ H x y v u Q I rx ry ⟨A, dx, dy, b, r1, r2, e, q⟩
  unfold eqD at e
  split at e
  · rename_i h
    simp only [Bool.and_eq_true] at h
    cases e
    exact op_eqD hu pins s σ H x y v u Q I rx ry ⟨_, _, plain_dp h.1 r1, plain_dp h.2 r2, plain_shaped h.1 (by decide), plain_shaped h.2 (by decide), by rw [eqv_toP h.1 h.2]; exact q⟩
  · cases e
theorem op_neDD (hu : X.A.units + 64 < cLine) : OpR X (compareOp .NotEq) (rB X.mg (neg eqD)) := by
  intro pins s σ H x y v u Q I rx ry ⟨A, dx, dy, b, r1, r2, e, q⟩
  unfold neg eqD at e
  split at e
  · rename_i h
    simp only [Bool.and_eq_true] at h
    cases e
    exact op_neD hu pins s σ H x y v u Q I rx ry ⟨_, _, plain_dp h.1 r1, plain_dp h.2 r2, plain_shaped h.1 (by decide), plain_shaped h.2 (by decide), by rw [eqv_toP h.1 h.2]; exact q⟩
  · cases e
theorem op_ltD : OpR X (compareOp .Lt) (rB X.mg ltD) := by
  intro pins s σ H x y v u Q I rx ry ⟨A, dx, dy, b, r1, r2, e, q⟩
  cases r1 <;> cases r2 <;> simp only [ltD, reduceCtorEq] at e
  cases e
  exact op_lt pins s σ H _ _ v u Q I rx ry ⟨_, _, rfl, rfl, q⟩
theorem op_leD : OpR X (compareOp .LtE) (rB X.mg leD) := by
  intro pins s σ H x y v u Q I rx ry ⟨A, dx, dy, b, r1, r2, e, q⟩
  cases r1 <;> cases r2 <;> simp only [leD, reduceCtorEq] at e
  cases e
  exact op_le pins s σ H _ _ v u Q I rx ry ⟨_, _, rfl, rfl, q⟩
theorem op_gtD : OpR X (compareOp .Gt) (rB X.mg (flip ltD)) := by
  intro pins s σ H x y v u Q I rx ry ⟨A, dx, dy, b, r1, r2, e, q⟩
  cases r1 <;> cases r2 <;> simp only [flip, ltD, reduceCtorEq] at e
  cases e
  exact op_gt pins s σ H _ _ v u Q I rx ry ⟨_, _, rfl, rfl, q⟩
theorem op_geD : OpR X (compareOp .GtE) (rB X.mg (flip leD)) := by
  intro pins s σ H x y v u Q I rx ry ⟨A, dx, dy, b, r1, r2, e, q⟩
  cases r1 <;> cases r2 <;> simp only [flip, leD, reduceCtorEq] at e
  cases e
  exact op_ge pins s σ H _ _ v u Q I rx ry ⟨_, _, rfl, rfl, q⟩
theorem anyP : ∀ {n m : Nat} {ys : List D} {x : D}, D.plain n x = true → D.plains m ys = true → ((toPs ys).any fun z => PyData.eqv z (toP x)) = ys.any fun z => D.eqv z x
  | n, m, [], x, _, _ => rfl
  | n, m, y :: ys, x, h, h2 => by
    simp only [D.plains, Bool.and_eq_true] at h2
    simp only [toPs, List.any_cons]
    rw [eqv_toP h2.1 h, anyP h h2.2]
theorem op_ninLD (hu : X.A.units + 65 < cLine) : OpR X (compareOp .NotIn) (rB X.mg (neg inL)) := by
  intro pins s σ H x y v u Q I rx ry ⟨A, dx, dy, b, r1, r2, e, q⟩
  unfold neg at e
  cases r2 <;> simp only [inL, reduceCtorEq, Option.map_none] at e
  rename_i a xs ds ha h t
  split at e
  · rename_i hp
    simp only [Bool.and_eq_true] at hp
    cases e
    have pl : D.plain 60 (.lst ds) = true := by simp only [D.plain]; exact hp.2
    refine op_notInD hu pins s σ H x _ v u Q I rx ry ⟨_, _, plain_dp hp.1 r1, plain_dp pl (.lst ha h t), plain_shaped hp.1 (by decide), plain_shaped pl (by decide), ?_⟩
    rw [anyP hp.1 hp.2]
    exact q
  · cases e
theorem str_one {x : Str} {c : Nat} (h : x.cps.toList = [c]) : x = ⟨#[c]⟩ := by
  cases x with
  | mk cps =>
    have : cps = #[c] := by
      apply Array.ext'
      exact h
    rw [this]
theorem op_inSD : OpR X (compareOp .In) (rB X.mg inS) := by
  intro pins s σ H x y v u Q I rx ry ⟨A, dx, dy, b, r1, r2, e, q⟩
  cases r1 <;> cases r2 <;> simp only [inS, reduceCtorEq] at e
  split at e
  · rename_i c hc
    cases e
    exact op_in_sign pins s σ H _ _ v u Q I rx ry ⟨c, _, by rw [str_one hc], rfl, q⟩
  · cases e
theorem op_ninSD : OpR X (compareOp .NotIn) (rB X.mg (neg inS)) := by
  intro pins s σ H x y v u Q I rx ry ⟨A, dx, dy, b, r1, r2, e, q⟩
  unfold neg at e
  cases r1 <;> cases r2 <;> simp only [inS, reduceCtorEq, Option.map_none] at e
  split at e
  · rename_i c hc
    cases e
    exact op_notIn_sign pins s σ H _ _ v u Q I rx ry ⟨c, _, by rw [str_one hc], rfl, q⟩
  · cases e
theorem tB_of {K : PySem.W.Frag} {mg : Str → Option Value} {f : D → D → Option Bool} {a b : Ex} {σ : L2.St} {H : Hp} {Q : Bool → Hp → Prop} {τ' : Bool} (h : tT K mg (cmp f a b) σ H Q) : tOp (rB mg f) (tE K mg true a) (tE K mg true b) σ H (fun x H' => ∃ k, x = .bl k ∧ Q k H') := by
  obtain ⟨B, O, env, c, r, h1, q⟩ := h
  obtain ⟨x, hx, h1⟩ := bnd h1
  obtain ⟨y, hy, h1⟩ := bnd h1
  exact ⟨B, O, env, x, r, hx, fun v H1 s1 r1 => ⟨B, O, env, y, r.heap s1, hy, fun w H2 s2 r2 => ⟨_, x, y, c, r1.same s2, r2, h1, c, rfl, q H2 (s1.trans s2)⟩⟩⟩
theorem st_cmp {f : D → D → Option Bool} {op : CmpOp} {a b : Expr} {da db : Ex} {pos : Pos} (ho : OpR X (compareOp op) (rB X.mg f)) (ha : SE X true a da) (hb : SE X true b db) (hm : behindInMarks op b = false := by first | exact nomark _ | rfl) : ST X (.Compare a [op] [b] pos) (cmp f da db) :=
  (pt_cmpR ho ha hb hm).weak fun σ H Q h => tB_of (τ' := true) h
theorem se_cmp {f : D → D → Option Bool} {op : CmpOp} {a b : Expr} {da db : Ex} {pos : Pos} (ho : OpR X (compareOp op) (rB X.mg f)) (ha : SE X true a da) (hb : SE X true b db) (hm : behindInMarks op b = false := by first | exact nomark _ | rfl) : SE X τ (.Compare a [op] [b] pos) (boo (cmp f da db)) :=
  (pe_cmpR ho ha hb hm).weak fun σ H Q ⟨B, O, env, d, r, h1, q⟩ => by
  obtain ⟨c, hc, h2⟩ := Option.map_eq_some_iff.mp h1
  subst h2
  obtain ⟨x, hx, h1⟩ := bnd hc
  obtain ⟨y, hy, h1⟩ := bnd h1
  exact ⟨B, O, env, x, r, hx, fun v H1 s1 r1 => ⟨B, O, env, y, r.heap s1, hy, fun w H2 s2 r2 => ⟨_, x, y, c, r1.same s2, r2, h1, q _ H2 (s1.trans s2) (.bl c)⟩⟩⟩
theorem st_chn {f g : D → D → Option Bool} {op op' : CmpOp} {a b c : Expr} {da db dc : Ex} {pos : Pos} (ho : OpR X (compareOp op) (rB X.mg f)) (ho' : OpR X (compareOp op') (rB X.mg g)) (ha : SE X true a da) (hb : SE X true b db) (hc : SE X true c dc)
    (hm : lastMarks [op, op'] [b, c] = false := by with_unfolding_all rfl) : ST X (.Compare a [op, op'] [b, c] pos) (chn f g da db dc) :=
  (pt_chain ho ho' ha hb hc hm).weak fun σ H Q ⟨B, O, env, k, r, h1, q⟩ => by
  obtain ⟨x, hx, h1⟩ := bnd h1
  obtain ⟨y, hy, h1⟩ := bnd h1
  obtain ⟨c1, hc1, h1⟩ := bnd h1
  refine ⟨B, O, env, x, r, hx, fun v H1 s1 r1 => ⟨B, O, env, y, r.heap s1, hy, fun w H2 s2 r2 => ⟨_, x, y, c1, r1.same s2, r2, hc1, c1, rfl, ?_⟩⟩⟩
  cases c1 with
  | false =>
    cases h1
    exact iteF ⟨_, rfl, q H2 (s1.trans s2)⟩
  | true =>
    obtain ⟨z, hz, h1⟩ := bnd h1
    exact iteT ⟨B, O, env, z, (r.heap s1).heap s2, hz, fun w' H3 s3 r3 => ⟨_, y, z, k, r2.same s3, r3, h1, k, rfl, q H3 ((s1.trans s2).trans s3)⟩⟩
theorem st_tes {e : Expr} {de : Ex} (h : SE X true e de) (he : ∀ whole, isTrue e X.env whole = (do let v ← whole; standAt e.pos; holding [v] (truthy v)) := by intro _; rfl) : ST X e (tes de) := (pt_val h he).weak fun σ H Q ⟨B, O, env, b, r, h1, q⟩ => by
  obtain ⟨d, hd, h2⟩ := bnd h1
  refine ⟨B, O, env, d, r, hd, fun v H1 s1 r1 => ?_⟩
  split at h2
  · cases h2
    cases r1
    exact ⟨_, rfl, q H1 s1⟩
  · cases h2
theorem sw_and1 {a : Expr} {ta : Tx} {pos : Pos} (h : ST X a ta) : SWd X (.BoolOp .And [a] pos) ta := pw_and1 h
theorem sw_or1 {a : Expr} {ta : Tx} {pos : Pos} (h : ST X a ta) : SWd X (.BoolOp .Or [a] pos) ta := pw_or1 h
theorem sw_and {a b : Expr} {rest : List Expr} {ta tb : Tx} {pos : Pos} (h1 : ST X a ta) (h2 : SWd X (.BoolOp .And (b :: rest) pos) tb) : SWd X (.BoolOp .And (a :: b :: rest) pos) (andT ta tb) := (pw_and h1 h2).weak fun σ H Q ⟨B, O, env, c, r, e, q⟩ => by
  obtain ⟨ca, ha, e⟩ := bnd e
  refine ⟨B, O, env, ca, r, ha, fun H1 s1 => ?_⟩
  cases ca with
  | true => exact iteT ⟨B, O, env, c, r.heap s1, e, fun H2 s2 => q H2 (s1.trans s2)⟩
  | false =>
    cases e
    exact iteF (q H1 s1)
theorem sw_or {a b : Expr} {rest : List Expr} {ta tb : Tx} {pos : Pos} (h1 : ST X a ta) (h2 : SWd X (.BoolOp .Or (b :: rest) pos) tb) : SWd X (.BoolOp .Or (a :: b :: rest) pos) (orT ta tb) := (pw_or h1 h2).weak fun σ H Q ⟨B, O, env, c, r, e, q⟩ => by
  obtain ⟨ca, ha, e⟩ := bnd e
  refine ⟨B, O, env, ca, r, ha, fun H1 s1 => ?_⟩
  cases ca with
  | false => exact iteF ⟨B, O, env, c, r.heap s1, e, fun H2 s2 => q H2 (s1.trans s2)⟩
  | true =>
    cases e
    exact iteT (q H1 s1)
theorem SWd.st {e : Expr} {t : Tx} (h : SWd X e t) : ST X e t := h.pt
theorem st_not {a : Expr} {ta : Tx} {pos : Pos} (h : ST X a ta) : ST X (.UnaryOp .Not a pos) (notT ta) := (pt_not h).weak fun σ H Q ⟨B, O, env, c, r, e, q⟩ => by
  obtain ⟨k, hk, h2⟩ := Option.map_eq_some_iff.mp e
  subst h2
  exact ⟨B, O, env, k, r, hk, fun H1 s1 => q H1 s1⟩
theorem se_one {op : PySem.BoolOp} {a : Expr} {da : Ex} {pos : Pos} (h : SE X τ a da) : SE X τ (.BoolOp op [a] pos) da := pe_one h
theorem se_and {a b : Expr} {rest : List Expr} {da db : Ex} {pos : Pos} (h1 : SE X τ a da) (h2 : SE X τ (.BoolOp .And (b :: rest) pos) db) : SE X τ (.BoolOp .And (a :: b :: rest) pos) (andV da db) := (pe_and h1 h2).weak fun σ H Q ⟨B, O, env, d, r, e, q⟩ => by
  obtain ⟨x, hx, e⟩ := bnd e
  refine ⟨B, O, env, x, r, hx, fun v H1 s1 r1 => ?_⟩
  split at e
  · cases r1
    exact ⟨_, rfl, iteT ⟨B, O, env, d, r.heap s1, e, fun v H2 s2 r2 => q v H2 (s1.trans s2) r2⟩⟩
  · cases r1
    cases e
    exact ⟨_, rfl, iteF (q _ H1 s1 (.bl _))⟩
  · cases e
theorem se_or {a b : Expr} {rest : List Expr} {da db : Ex} {pos : Pos} (h1 : SE X τ a da) (h2 : SE X τ (.BoolOp .Or (b :: rest) pos) db) : SE X τ (.BoolOp .Or (a :: b :: rest) pos) (orV da db) := (pe_or h1 h2).weak fun σ H Q ⟨B, O, env, d, r, e, q⟩ => by
  obtain ⟨x, hx, e⟩ := bnd e
  refine ⟨B, O, env, x, r, hx, fun v H1 s1 r1 => ?_⟩
  split at e
  · cases r1
    cases e
    exact ⟨_, rfl, iteT (q _ H1 s1 (.bl _))⟩
  · cases r1
    exact ⟨_, rfl, iteF ⟨B, O, env, d, r.heap s1, e, fun v H2 s2 r2 => q v H2 (s1.trans s2) r2⟩⟩
  · cases e
theorem se_ife {c a b : Expr} {tc : Tx} {da db : Ex} {pos : Pos} (hc : ST X c tc) (ha : SE X τ a da) (hb : SE X τ b db) : SE X τ (.IfExp c a b pos) (ife tc da db) := (pe_ifExp hc ha hb).weak fun σ H Q ⟨B, O, env, d, r, e, q⟩ => by
  obtain ⟨c, hc, e⟩ := bnd e
  refine ⟨B, O, env, c, r, hc, fun H1 s1 => ?_⟩
  cases c with
  | true => exact iteT ⟨B, O, env, d, r.heap s1, e, fun v H2 s2 r2 => q v H2 (s1.trans s2) r2⟩
  | false => exact iteF ⟨B, O, env, d, r.heap s1, e, fun v H2 s2 r2 => q v H2 (s1.trans s2) r2⟩
end
end PV

namespace PV
variable [LT] [RT]
open PySem PySem.Spec PyProof.Rows L2
theorem at_get {mg : Str → Option Value} {A : Addr → Prop} {H : Hp} {vs : List V} {ds : List D} {i : Int} {d : D} (r : Reps mg A H vs ds) (e : ((PV.ixN ds.length i).bind fun k => ds[k]?) = some d) : ∃ v, atI vs i = some v ∧ Rep mg A H v d := by
  obtain ⟨k, h1, h2⟩ := bnd e
  obtain ⟨v, h3, h4⟩ := r.get h2
  refine ⟨v, ?_, h4⟩
  unfold atI
  rw [r.len]
  show (PV.ixN ds.length i).bind _ = _
  rw [h1]
  exact h3
section
variable {mg : Str → Option Value} {A : Addr → Prop} {H : Hp} {v : V} {ds ks : List D}
theorem Rep.lst_inv (r : Rep mg A H v (.lst ds)) : ∃ a xs, v = .ref a ∧ A a ∧ H a = some (.lst xs) ∧ Reps mg A H xs ds := by
  cases r
  exact ⟨_, _, rfl, by assumption, by assumption, by assumption⟩
theorem Rep.tup_inv (r : Rep mg A H v (.tup ds)) : ∃ a xs, v = .ref a ∧ H a = some (.tup xs) ∧ Reps mg A H xs ds := by
  cases r
  exact ⟨_, _, rfl, by assumption, by assumption⟩
end
section
variable {X : Cx} {τ : Bool}
theorem ix_getD : IxR X (rD X.mg getD) := by
  intro value slice pins s σ H x y v u Q I rx ry ⟨A, dx, dy, d, fr, r1, r2, e, q⟩ hs
  cases r1 <;> cases r2 <;> simp only [getD, reduceCtorEq] at e
  · split at e
    · rename_i hz
      obtain ⟨k, h1, h2⟩ := bnd e
      obtain ⟨c, h3, h4⟩ := Option.map_eq_some_iff.mp h2
      subst h4
      refine ix_str value slice pins s σ H _ _ v u Q I rx ry ⟨_, _, c, rfl, rfl, szL_ok hz, ?_, q _ H (Same.refl H) (.str _)⟩ hs
      unfold atI
      rename_i z i
      have hl : z.cps.toList.length = z.length := by simp [Str.length]
      rw [hl]
      show (PV.ixN z.length i).bind _ = _
      rw [h1]
      simpa using h3
    · cases e
  · rename_i a xs ds h t i
    obtain ⟨w, h1, h2⟩ := at_get t e
    exact ix_tup value slice pins s σ H _ _ v u Q I rx ry ⟨a, xs, i, w, rfl, rfl, .inl (.inl h), h1, q w H (Same.refl H) h2⟩ hs
  · rename_i a xs ds ha h t i
    obtain ⟨w, h1, h2⟩ := at_get t e
    exact ix_list value slice pins s σ H _ _ v u Q I rx ry ⟨a, xs, i, w, rfl, rfl, .inl (.inl h), h1, q w H (Same.refl H) h2⟩ hs
  · rename_i a ns ha h i
    obtain ⟨k, h1, h2⟩ := bnd e
    obtain ⟨n, h3, h4⟩ := Option.map_eq_some_iff.mp h2
    subst h4
    refine ix_list value slice pins s σ H _ _ v u Q I rx ry ⟨a, _, i, .int n, rfl, rfl, .inl h, ?_, q _ H (Same.refl H) (.int n)⟩ hs
    unfold atI
    rw [List.length_map]
    show (PV.ixN ns.length i).bind _ = _
    rw [h1]
    simp [h3]
  · rename_i a ob xs ds h f t i
    obtain ⟨w, h1, h2⟩ := at_get t e
    exact ix_tup value slice pins s σ H _ _ v u Q I rx ry ⟨a, xs, i, w, rfl, rfl, .inl (.inr ⟨_, h⟩), h1, q w H (Same.refl H) h2⟩ hs
theorem se_get {a b : Expr} {da db : Ex} {pos : Pos} (ha : SE X τ a da) (hb : SE X τ b db) (hs : PlainIx b := by intro _ _; rfl) : SE X τ (.Subscript a b pos) (op2 getD da db) := (pe_ix ix_getD ha hb hs).weak fun _ _ _ h => tOp_of h
def tO (K : PySem.W.Frag) (mg : Str → Option Value) (dp : DEnv → Option (Option Int)) : TO := fun σ H Q => ∃ B O env o, ERel K mg B O σ H env ∧ dp env = some o ∧ ∀ H', Same H H' → Q o H'
abbrev SO (X : Cx) (e : Option Expr) (dp : DEnv → Option (Option Int)) : Prop := PO X e (tO X.K X.mg dp)
theorem so_none : SO X none prN := ⟨fun pins s σ H Q I ⟨B, O, env, o, r, e, q⟩ => by
  cases e
  exact po_none.run pins s σ H Q I (q H (Same.refl H))⟩
theorem so_some {e : Expr} {de : Ex} (h : SE X true e de) : SO X (some e) (prt de) := ⟨fun pins s σ H Q I ⟨B, O, env, o, r, e, q⟩ => by
  refine (po_some h).run pins s σ H Q I ?_
  obtain ⟨d, hd, h2⟩ := bnd e
  refine ⟨B, O, env, d, r, hd, fun v H1 s1 r1 => ?_⟩
  split at h2
  · cases h2
    cases r1
    exact ⟨_, rfl, q H1 s1⟩
  · cases h2⟩
theorem Reps.cut {mg : Str → Option Value} {A : Addr → Prop} {H : Hp} {vs : List V} {ds : List D} {lo hi : Option Int} (r : Reps mg A H vs ds) : Reps mg A H (cutV vs lo hi) (cut ds lo hi) := by
  unfold cutV PV.cut
  rw [r.len]
  exact (r.drop _).take _
theorem slT_of {K : PySem.W.Frag} {mg : Str → Option Value} {f : Option Int → Option Int → D → Option D} {r0 : V → Option Int → Option Int → Hp → VK → Prop} {da : Ex} {lo hi : DEnv → Option (Option Int)} {σ : L2.St} {H : Hp} {Q : VK}
    (hr : ∀ (B : Bs) O (σ : L2.St) env x lo hi H1 dx d Q, ERel K mg B O σ H1 env → Rep mg (Lv B O τ) H1 x dx → f lo hi dx = some d → (∀ v H', Same H1 H' → Rep mg (Lv B O τ) H' v d → Q v H') → r0 x lo hi H1 Q)
    (h : tE K mg τ (slE f da lo hi) σ H Q) : tSl r0 (tE K mg τ da) (tO K mg lo) (tO K mg hi) σ H Q := by
  obtain ⟨B, O, env, d, r, e, q⟩ := h
  obtain ⟨x, hx, e⟩ := bnd e
  obtain ⟨l, hl, e⟩ := bnd e
  obtain ⟨u, hu, e⟩ := bnd e
  refine ⟨B, O, env, x, r, hx, fun v H1 s1 r1 => ⟨B, O, env, l, r.heap s1, hl, fun H2 s2 => ⟨B, O, env, u, (r.heap s1).heap s2, hu, fun H3 s3 => ?_⟩⟩⟩
  exact hr B O σ env v l u H3 x d Q (((r.heap s1).heap s2).heap s3) ((r1.same s2).same s3) e fun v' H' s' rv => q v' H' (((s1.trans s2).trans s3).trans s') rv
theorem se_slT {a : Expr} {da : Ex} {lo hi : Option Expr} {dl dh : DEnv → Option (Option Int)} {p2 pos : Pos} (ha : SE X τ a da) (hl : SO X lo dl) (hh : SO X hi dh) : SE X τ (.Subscript a (.Slice lo hi none p2) pos) (slE slcT da dl dh) :=
  (pe_slice (SlR.or sl_tupA sl_str) ha hl hh).weak fun σ H Q h => slT_of (fun B O σ env x lo hi H1 dx d Q rl r1 e q => by
    cases r1 <;> simp only [slcT, reduceCtorEq] at e
    · split at e
      · rename_i z hz
        cases e
        refine .inr ⟨_, rfl, szL_ok hz, ?_⟩
        have : cutS z lo hi = ⟨(PV.cut z.cps.toList lo hi).toArray⟩ := by
          unfold cutS PV.cut
          have hl : z.cps.toList.length = z.length := by simp [Str.length]
          rw [hl]
          rfl
        rw [this]
        exact q _ H1 (Same.refl H1) (.str _)
      · cases e
    · rename_i a xs ds h t
      cases e
      refine .inl ⟨a, xs, rfl, .inl (.inl h), fun hw => ?_, fun _ p hp => q _ _ (same_upd hp) (.tup upd_same ((Reps.cut t).same (same_upd hp)))⟩
      have : PV.cut ds lo hi = ds := by
        have hw' : PV.six ds.length 0 lo = 0 ∧ PV.six ds.length ds.length hi = ds.length := by rw [← t.len]; exact hw
        unfold PV.cut
        rw [hw'.1, hw'.2]
        simp
      rw [this] at q
      exact q _ H1 (Same.refl H1) (.tup h t)
    · rename_i a ob xs ds h f t
      cases e
      refine .inl ⟨a, xs, rfl, .inl (.inr ⟨_, h⟩), fun hw => ?_, fun nw p hp => ?_⟩
      · have hw' : PV.six ds.length 0 lo = 0 ∧ PV.six ds.length ds.length hi = ds.length := by rw [← t.len]; exact hw
        rw [if_pos hw'] at q
        exact q _ H1 (Same.refl H1) (.ftup h f t)
      · have hw' : ¬ (PV.six ds.length 0 lo = 0 ∧ PV.six ds.length ds.length hi = ds.length) := by rw [← t.len]; exact nw
        rw [if_neg hw'] at q
        exact q _ _ (same_upd hp) (.tup upd_same ((Reps.cut t).same (same_upd hp)))) h
theorem tCB_of {K : PySem.W.Frag} {mg : Str → Option Value} {F : Fn} {da : Ax} {σ : L2.St} {H : Hp} {Q : VK} (h : tE K mg τ (cal F da) σ H Q) : tCB (rC mg F) (tA K mg τ da) σ H Q := by
  obtain ⟨B, O, env, d, r, e, q⟩ := h
  obtain ⟨ds, hd, e⟩ := bnd e
  exact ⟨B, O, env, ds, r, hd, fun vs H1 s1 r1 => ⟨_, ds, d, (r.heap s1).fr, r1, e, fun v H' s' rv => q v H' (s1.trans s') rv⟩⟩
theorem se_blt {F : Fn} {id : String} {x : Str} {e : Expr} {es : List Expr} {da : Ax} {p pos : Pos} (hc : CallR X (.builtin id) (rC X.mg F)) (hm : X.mg x = none) (hv : bootBuiltins x = some (.builtin id)) (ha : SA X τ (e :: es) da) (hg : Gl X x := by rfl) (hn : x ≠ "__name__" := by decide) (hdb : (x == ("__debug__" : Str)) = false := by decide)
    (he : starEach (e :: es) X.env = (false, eval e X.env) :: starEach es X.env := by rfl) (hpl : (backTo pos (starEach es X.env)).any (·.1) = false := by rfl) : SE X τ (.Call (.Name x p) (e :: es) [] pos) (cal F da) := (pe_callB hc hg hm hv ha hn hdb he hpl).weak fun _ _ _ h => tCB_of h
theorem se_bty {F : Fn} {T : String} {x : Str} {e : Expr} {es : List Expr} {da : Ax} {p pos : Pos} (hc : CallR X (.type T) (rC X.mg F)) (hm : X.mg x = none) (hv : bootBuiltins x = some (.type T)) (ha : SA X τ (e :: es) da) (hg : Gl X x := by rfl) (hn : x ≠ "__name__" := by decide) (hdb : (x == ("__debug__" : Str)) = false := by decide)
    (he : starEach (e :: es) X.env = (false, eval e X.env) :: starEach es X.env := by rfl) (hpl : (backTo pos (starEach es X.env)).any (·.1) = false := by rfl) : SE X τ (.Call (.Name x p) (e :: es) [] pos) (cal F da) := (pe_callTy hc hg hm hv ha hn hdb he hpl).weak fun _ _ _ h => tCB_of h
theorem f1_one {f : D → Option D} {ds : List D} {d : D} (h : f1 f ds = some d) : ∃ x, ds = [x] ∧ f x = some d := by
  unfold f1 at h
  split at h
  · exact ⟨_, rfl, h⟩
  · cases h
theorem reps_one {mg : Str → Option Value} {A : Addr → Prop} {H : Hp} {vs : List V} {x : D} (r : Reps mg A H vs [x]) : ∃ v, vs = [v] ∧ Rep mg A H v x := by
  cases r with
  | cons h t => cases t; exact ⟨_, rfl, h⟩
theorem cr_lenD : CallR X (.builtin "len") (rC X.mg (f1 lenD)) := by
  intro pins s σ H xs us Q I r ⟨A, ds, d, fr, r1, e, q⟩
  obtain ⟨x, rfl, e2⟩ := f1_one e
  clear e
  obtain ⟨v, rfl, rx⟩ := reps_one r1
  cases rx <;> simp only [lenD, reduceCtorEq] at e2
  · split at e2
    · rename_i hz
      cases e2
      exact call_len_str pins s σ H _ us Q I r ⟨_, rfl, szL_ok hz, q _ H (Same.refl H) (.int _)⟩
    · cases e2
  · rename_i a xs ds h t
    cases e2
    exact call_len_seq pins s σ H _ us Q I r ⟨a, xs, rfl, .inr (.inl (.inl h)), by rw [t.len]; exact q _ H (Same.refl H) (.int _)⟩
  · rename_i a xs ds ha h t
    cases e2
    exact call_len_seq pins s σ H _ us Q I r ⟨a, xs, rfl, .inl (.inl (.inl h)), by rw [t.len]; exact q _ H (Same.refl H) (.int _)⟩
  · rename_i a ns ha h
    cases e2
    exact call_len_seq pins s σ H _ us Q I r ⟨a, _, rfl, .inl (.inl h), by rw [List.length_map]; exact q _ H (Same.refl H) (.int _)⟩
  · rename_i a ob xs ds h f t
    cases e2
    exact call_len_seq pins s σ H _ us Q I r ⟨a, xs, rfl, .inr (.inl (.inr ⟨_, h⟩)), by rw [t.len]; exact q _ H (Same.refl H) (.int _)⟩
theorem cr_intD : CallR X (.type "int") (rC X.mg (f1 intD)) := by
  intro pins s σ H xs us Q I r ⟨A, ds, d, fr, r1, e, q⟩
  obtain ⟨x, rfl, e2⟩ := f1_one e
  clear e
  obtain ⟨v, rfl, rx⟩ := reps_one r1
  cases rx <;> simp only [intD, reduceCtorEq] at e2
  · rename_i b
    cases e2
    exact call_int1 pins s σ H _ us Q I r (.inr ⟨b, rfl, q _ H (Same.refl H) (.int _)⟩)
  · cases e2
    exact call_int1 pins s σ H _ us Q I r (.inl ⟨_, rfl, q _ H (Same.refl H) (.int _)⟩)
theorem bls_of {mg : Str → Option Value} {A : Addr → Prop} {H : Hp} : ∀ {vs : List V} {ds : List D} {ns : List Bool}, Reps mg A H vs ds → blsOf ds = some ns → vs = ns.map V.bl
  | _, _, _, .nil, e => by
    simp only [blsOf] at e
    cases e
    rfl
  | _, _, _, .cons h t, e => by
    cases h <;> simp only [blsOf, reduceCtorEq] at e
    obtain ⟨r, h1, h2⟩ := Option.map_eq_some_iff.mp e
    subst h2
    rw [List.map_cons, ← bls_of t h1]
theorem cr_allL (hc : X.calm = true) : CallR X (.builtin "all") (rC X.mg (f1 allL)) := by
  intro pins s σ H xs us Q I r ⟨A, ds, d, fr, r1, e, q⟩
  obtain ⟨x, rfl, e2⟩ := f1_one e
  clear e
  obtain ⟨v, rfl, rx⟩ := reps_one r1
  cases rx <;> simp only [allL, reduceCtorEq] at e2
  rename_i a xs ds ha h t
  obtain ⟨ns, h1, h2⟩ := Option.map_eq_some_iff.mp e2
  subst h2
  have := bls_of t h1
  subst this
  exact cr_all hc pins s σ H _ us Q I r ⟨a, ns, rfl, .inl (.inl h), q _ H (Same.refl H) (.bl _)⟩
end
end PV

namespace PV
variable [LT] [RT]
open PySem PySem.Spec PyProof.Rows L2
section
variable {K : PySem.W.Frag} {mg : Str → Option Value} {A : Addr → Prop} {H H1 : Hp} {a b : Addr} {vs ws : List V} {ds es : List D}
abbrev Tr (A : Addr → Prop) (H1 : Hp) : Addr → Prop := fun a => A a ∧ ∃ o, H1 a = some o
theorem reps_tr (r : Reps mg A H1 vs ds) : Reps mg (Tr A H1) H1 vs ds := r.keepT fun a h o => ⟨h, o⟩
theorem walks_list (ha : A a) (h : H1 a = some (.lst vs)) (r : Reps mg A H1 vs ds) : Walks mg (Tr A H1) (Itl K a) ds H1 := by
  intro i H k
  have hq : SqL K H a vs := .inl (.inl (k.lst a vs ⟨ha, _, h⟩ h))
  refine ⟨fun x e => ?_, fun e => ?_⟩
  · obtain ⟨v, h1, h2⟩ := (reps_tr r).get e
    refine ⟨⟨vs, v, hq, h1⟩, fun v' H' y => ?_⟩
    obtain ⟨e1, e2⟩ := y
    subst e1
    have := e2 vs hq
    rw [h1] at this
    cases this
    exact ⟨Same.refl _, h2.mono (fun _ z => z) k⟩
  · refine ⟨vs, hq, ?_⟩
    rw [r.len]
    exact List.getElem?_eq_none_iff.mp e
theorem walks_range {lo : Int} {n : Nat} : Walks mg A (Itr lo n) ((List.range n).map fun (k : Nat) => D.int (lo + (k : Int))) H1 := by
  intro i H k
  refine ⟨fun x e => ?_, fun e => ?_⟩
  · have hi : i < n := by
      have := (List.getElem?_eq_some_iff.mp e).1
      simpa using this
    refine ⟨hi, fun v' H' y => ?_⟩
    obtain ⟨e1, e2⟩ := y
    subst e1 e2
    rw [List.getElem?_map, List.getElem?_range hi] at e
    cases e
    exact ⟨Same.refl _, .int _⟩
  · have := List.getElem?_eq_none_iff.mp e
    show n ≤ i
    simpa using this
end
section
variable {X : Cx} {τ : Bool}
theorem si_list {tg e : Expr} {de : Ex} (h : SE X false e de) : SI X tg e (iLst de) := (pi_list h).weak fun σ H R ⟨B, O, env, ds, r, e, q⟩ => by
  obtain ⟨d, hd, h2⟩ := bnd e
  refine ⟨B, O, env, d, r, hd, fun v H1 s1 r1 => ?_⟩
  cases d <;> simp only [reduceCtorEq] at h2
  cases h2
  obtain ⟨a, xs, rfl, ha, h, t⟩ := r1.lst_inv
  exact ⟨a, rfl, ⟨xs, .inl (.inl h)⟩, q _ H1 s1 (walks_list ha h t)⟩
theorem si_rng1 {tg a : Expr} {da : Ax} {p pos : Pos} (hm : X.mg "range" = none) (ha : SA X true [a] da) (hg : Gl X "range" := by rfl) (hs : starEach [a] X.env = [(false, eval a X.env)] := by rfl) : SI X tg (.Call (.Name "range" p) [a] [] pos) (iRng (one1 da)) :=
  (pi_range1 hg hm ha hs).weak fun σ H R ⟨B, O, env, ds, r, e, q⟩ => by
  obtain ⟨l, hl, h2⟩ := bnd e
  obtain ⟨l', hl', h3⟩ := bnd hl
  split at h3
  · cases h3
    rename_i d
    refine ⟨B, O, env, [d], r, hl', fun vs H1 s1 r1 => ?_⟩
    obtain ⟨v, rfl, rv⟩ := reps_one r1
    cases d <;> simp only [rngL, reduceCtorEq] at h2
    split at h2
    · rename_i n hz
      cases h2
      cases rv
      simp only [decide_eq_true_eq] at hz
      refine ⟨n, rfl, hz.1, hz.2, q _ H1 s1 ?_⟩
      have := walks_range (mg := X.mg) (A := fun a => Lv B O false a ∧ ∃ o, H1 a = some o) (H1 := H1) (lo := 0) (n := n.toNat)
      simpa using this
    · cases h2
  · cases h3
theorem si_rng2 {tg a b : Expr} {da : Ax} {p pos : Pos} (hm : X.mg "range" = none) (ha : SA X true [a, b] da) (hg : Gl X "range" := by rfl) (hs : starEach [a, b] X.env = [(false, eval a X.env), (false, eval b X.env)] := by rfl) (hs2 : starEach [b] X.env = [(false, eval b X.env)] := by rfl) : SI X tg (.Call (.Name "range" p) [a, b] [] pos) (iRng (two2 da)) :=
  (pi_range2 hg hm ha hs hs2).weak fun σ H R ⟨B, O, env, ds, r, e, q⟩ => by
  obtain ⟨l, hl, h2⟩ := bnd e
  obtain ⟨l', hl', h3⟩ := bnd hl
  split at h3
  · cases h3
    rename_i d d2
    refine ⟨B, O, env, [d, d2], r, hl', fun vs H1 s1 r1 => ?_⟩
    cases r1 with
    | cons rv r1 =>
      obtain ⟨w, rfl, rw'⟩ := reps_one r1
      cases d <;> cases d2 <;> simp only [rngL, reduceCtorEq] at h2
      split at h2
      · rename_i m n hz
        cases h2
        cases rv
        cases rw'
        simp only [decide_eq_true_eq] at hz
        exact ⟨m, n, rfl, hz, q _ H1 s1 walks_range⟩
      · cases h2
  · cases h3
theorem wip_get {e : DEnv} {x : DSlot} : ∀ {ws : List Nat} {i : Nat}, (wip e ws)[i]? = some x → x = .no ∨ (e[i]? = some x ∧ i ∉ ws)
  | [], i, h => .inr ⟨h, by simp⟩
  | w :: ws, i, h => by
    unfold wip at h
    rcases get_set h with ⟨rfl, rfl, _⟩ | ⟨hi, h⟩
    · exact .inl rfl
    · rcases wip_get h with z | ⟨z, n⟩
      · exact .inl z
      · exact .inr ⟨z, by simp [hi, n]⟩
theorem wip_len {e : DEnv} : ∀ {ws : List Nat}, (wip e ws).length = e.length
  | [] => rfl
  | w :: ws => by unfold wip; rw [List.length_set, wip_len]
theorem wipe_get {σ : L2.St} {i : Nat} : ∀ {ws : List Nat}, i ∉ ws → (wipe σ ws)[i]? = σ[i]?
  | [], _ => rfl
  | w :: ws, h => by
    simp only [List.mem_cons, not_or] at h
    unfold wipe
    rw [List.getElem?_set_ne (Ne.symm h.1), wipe_get h.2]
theorem ERel.noO {K : PySem.W.Frag} {mg : Str → Option Value} {B : Bs} {O : Nat → Option Addr} {σ : L2.St} {H : Hp} {env : DEnv} (r : ERel K mg B O σ H env) {ws : List Nat} (hn : noOwn env ws = true) {i : Nat} (hi : i ∈ ws) (hl : i < env.length) : O i = none := by
  cases e : O i with
  | none => rfl
  | some p =>
    have := List.all_eq_true.mp hn i hi
    obtain ⟨d, h | h⟩ := r.nst i p e hl <;> (rw [h] at this; cases this)
theorem ERel.wip {K : PySem.W.Frag} {mg : Str → Option Value} {B : Bs} {O : Nat → Option Addr} {σ : L2.St} {H : Hp} {env : DEnv} (r : ERel K mg B O σ H env) (ws : List Nat) (hn : noOwn env ws = true) : ERel K mg B O (wipe σ ws) H (PV.wip env ws) := by
  refine ⟨by rw [wip_len, wipe_length]; exact r.len, r.same, fun i d e => ?_, fun i d e => ?_, fun i d e => ?_, r.inj, r.trk, r.fr0, r.bd, fun i p a hl => ?_⟩
  · rcases wip_get e with z | ⟨z, n⟩
    · cases z
    · rw [wipe_get n]; exact r.vals i d z
  · rcases wip_get e with z | ⟨z, n⟩
    · cases z
    · rw [wipe_get n]; exact r.owns i d z
  · rcases wip_get e with z | ⟨z, n⟩
    · cases z
    · rw [wipe_get n]; exact r.slfs i d z
  · rw [wip_len] at hl
    have nw : i ∉ ws := fun hi => by
      rw [r.noO hn hi hl] at a; cases a
    have : ∀ (us : List Nat), i ∉ us → (PV.wip env us)[i]? = env[i]? := by
      intro us
      induction us with
      | nil => intro _; rfl
      | cons u us ih =>
        intro h
        simp only [List.mem_cons, not_or] at h
        show ((PV.wip env us).set u .no)[i]? = _
        rw [List.getElem?_set_ne (Ne.symm h.1), ih h.2]
    rw [this ws nw]
    exact r.nst i p a hl
theorem ERel.more {K : PySem.W.Frag} {mg : Str → Option Value} {B : Bs} {O : Nat → Option Addr} {σ : L2.St} {H : Hp} {env : DEnv} {p : Addr} {o : HO} (r : ERel K mg B O σ H env) (hp : H p = none) (w : Wr o) :
    ∃ n, env.length ≤ n ∧ ERel K mg B (putO O n p) σ (upd H p o) env ∧ ∀ τ a, Lv B (putO O n p) τ a → Lv B O τ a := by
  obtain ⟨n0, hn0⟩ := r.bd
  have hn : O (n0 + env.length) = none := hn0 _ (by omega)
  have h0 : B.H0 p = none := Same.free r.same hp
  have nO : ∀ j, O j ≠ some p := fun j e => by
    obtain ⟨o, z, _⟩ := r.trk j p e
    rw [hp] at z; cases z
  have s := same_upd (o := o) hp
  have lt : ∀ {i : Nat} {x : DSlot}, env[i]? = some x → i ≠ n0 + env.length := fun {i x} e => by
    have := (List.getElem?_eq_some_iff.mp e).1
    omega
  have up : ∀ a, (Lv B O false a ∧ a ≠ p) → Lv B (putO O (n0 + env.length) p) false a := fun a h => ⟨h.1.1, .inr fun j e => by
    unfold putO at e
    split at e
    · exact h.2 (Option.some.inj e).symm
    · exact (h.1.2.elim (fun z => Bool.noConfusion z) fun z => z) j e⟩
  have put : ∀ {i : Nat} {q : Addr}, i ≠ n0 + env.length → O i = some q → putO O (n0 + env.length) p i = some q := fun {i q} h e => by unfold putO; rw [if_neg h]; exact e
  have ow : ∀ {q : Addr} {d : D}, Own mg (Lv B O false) H q d → Own mg (Lv B (putO O (n0 + env.length) p) false) (upd H p o) q d := fun {q d} h4 => by
    cases h4 with
    | lst h r => exact .lst (s _ _ h) (((Reps.ne hp r).mono up keepRefl).same s)
    | dicK h r => exact .dicK (s _ _ h) (((Reps.ne hp r).mono up keepRefl).same s)
    | dicT h r => exact .dicT (s _ _ h) (((Reps.ne hp r).mono up keepRefl).same s)
    | ins h c r => exact .ins (s _ _ h) c (((Reps.ne hp r).mono up keepRefl).same s)
  refine ⟨n0 + env.length, by omega, ⟨r.len, r.same.trans s, fun i d e => ?_, fun i d e => ?_, fun i d e => ?_, fun j k q a b => ?_, fun j q a => ?_, fun j q a => ?_, bd_put r.bd, fun j q a hl => r.nst j q (by unfold putO at a; rw [if_neg (by omega)] at a; exact a) hl⟩, fun τ a h => ⟨h.1, h.2.elim .inl fun z => .inr fun j e => ?_⟩⟩
  · obtain ⟨v, h1, h2⟩ := r.vals i d e
    exact ⟨v, h1, ((Rep.ne hp h2).mono up keepRefl).same s⟩
  · obtain ⟨q, h1, h2, h3, h4⟩ := r.owns i d e
    exact ⟨q, put (lt e) h1, h2, h3, ow h4⟩
  · obtain ⟨h1, h2, h4⟩ := r.slfs i d e
    exact ⟨put (lt e) h1, h2, ow h4⟩
  · unfold putO at a b
    split at a <;> split at b
    · rename_i e1 e2; exact e1.trans e2.symm
    · cases a; exact absurd b (nO _)
    · cases b; exact absurd a (nO _)
    · exact r.inj j k q a b
  · unfold putO at a
    split at a
    · cases a; exact ⟨o, upd_same, w⟩
    · obtain ⟨o', z, w'⟩ := r.trk j q a
      haveI := Wr.nt w'
      exact ⟨o', s _ _ z, w'⟩
  · unfold putO at a
    split at a
    · cases a; exact h0
    · exact r.fr0 j q a
  · by_cases ej : j = n0 + env.length
    · subst ej; rw [hn] at e; cases e
    · exact z j (put ej e)
theorem wipe_idem {e : L2.St} : ∀ {vs : List Nat}, wipe (wipe e vs) vs = wipe e vs := by
  have aux : ∀ (us : List Nat) (e : L2.St), (∀ i ∈ us, e[i]? = some none ∨ e[i]? = none) → wipe e us = e := by
    intro us
    induction us with
    | nil => intro e _; rfl
    | cons u us ih =>
      intro e h
      show (wipe e us).set u none = e
      rw [ih e fun i hi => h i (List.mem_cons_of_mem _ hi)]
      apply List.ext_getElem?
      intro j
      by_cases hj : j = u
      · subst hj
        rcases h j List.mem_cons_self with z | z
        · have hl := (List.getElem?_eq_some_iff.mp z).1
          rw [List.getElem?_set_self hl, z]
        · rw [z, List.getElem?_eq_none]
          have := List.getElem?_eq_none_iff.mp z
          simpa using this
      · rw [List.getElem?_set_ne (Ne.symm hj)]
  intro vs
  refine aux vs _ fun i hi => ?_
  cases z : (wipe e vs)[i]? with
  | none => exact .inr rfl
  | some x =>
    cases x with
    | none => exact .inl rfl
    | some v => exact absurd hi (wipe_some z).2
theorem ERel.poke {K : PySem.W.Frag} {mg : Str → Option Value} {B : Bs} {H : Hp} {O : Nat → Option Addr} {σ : L2.St} {env : DEnv} {n : Nat} {p : Addr} {o' : HO} (r : ERel K mg B O σ H env) (hO : O n = some p) (hn : env.length ≤ n) (hw : Wr o') : ERel K mg B O σ (upd H p o') env := by
  have k : Keep (Lv B O false) H (upd H p o') := keep_write r hO
  have h0 := r.fr0 n p hO
  have lt : ∀ {i : Nat} {x : DSlot}, env[i]? = some x → i ≠ n := fun {i x} e => by
    have := (List.getElem?_eq_some_iff.mp e).1
    omega
  obtain ⟨o0, hp0, w0⟩ := r.trk n p hO
  refine ⟨r.len, r.same.put h0 hp0 w0, fun i d e => let ⟨v, h1, h2⟩ := r.vals i d e; ⟨v, h1, h2.mono (fun _ z => z) k⟩, fun i d e => ?_, fun i d e => ?_, r.inj, fun j q a => ?_, r.fr0, r.bd, r.nst⟩
  · obtain ⟨q, h1, h2, h3, h4⟩ := r.owns i d e
    have nq : q ≠ p := fun z => lt e (r.inj i n p (z ▸ h1) hO)
    exact ⟨q, h1, h2, h3, h4.mono (fun _ z => z) k fun o z _ => by rw [upd_ne nq]; exact z⟩
  · obtain ⟨h1, h2, h4⟩ := r.slfs i d e
    have nq : B.sf ≠ p := fun z => lt e (r.inj i n p (z ▸ h1) hO)
    exact ⟨h1, h2, h4.mono (fun _ z => z) k fun o z _ => by rw [upd_ne nq]; exact z⟩
  · by_cases e : q = p
    · subst e; exact ⟨o', upd_same, hw⟩
    · obtain ⟨o, z, w⟩ := r.trk j q a
      exact ⟨o, by rw [upd_ne e]; exact z, w⟩
theorem off_id {O : Nat → Option Addr} {i : Nat} (h : O i = none) : offO O i = O := by
  funext j
  unfold offO
  split
  · rename_i e; rw [e, h]
  · rfl
mutual
theorem tgR_oks {K : PySem.W.Frag} {mg : Str → Option Value} {B : Bs} : ∀ (g : Tg) {O : Nat → Option Addr} {σ : L2.St} {env env' : DEnv} {v : V} {d : D} {H : Hp} {Q : L2.St → Hp → Prop}, ERel K mg B O σ H env → (∀ i ∈ g.slots, O i = none) → Rep mg (Lv B O false) H v d → gD g d env = some env' →
    (∀ σ', ERel K mg B O σ' H env' → Only1 σ σ' g.slots → Q σ' H) → tgR K g v σ H Q
  | .n i, O, σ, env, env', v, d, H, Q, r, hn, rv, e, q => by
    simp only [gD, Option.some.injEq] at e
    subst e
    have z := ERel.set (i := i) r rv
    rw [off_id (hn i (by simp [Tg.slots]))] at z
    exact q _ z fun vs hv => wipe_set (hv i (by simp [Tg.slots]))
  | .t l, O, σ, env, env', v, d, H, Q, r, hn, rv, e, q => by
    cases d <;> simp only [gD, reduceCtorEq] at e
    obtain ⟨a, xs, rfl, hs, rs⟩ := rv.tup_inv
    exact ⟨a, xs, rfl, .inl (.inl hs), by rw [rs.len]; exact gDs_len e, tgRs_oks l r (fun i hi => hn i (by simpa [Tg.slots] using hi)) rs e fun σ' r' w => q σ' r' (by simpa only [Tg.slots] using w)⟩
theorem tgRs_oks {K : PySem.W.Frag} {mg : Str → Option Value} {B : Bs} : ∀ (l : List Tg) {O : Nat → Option Addr} {σ : L2.St} {env env' : DEnv} {vs : List V} {ds : List D} {H : Hp} {Q : L2.St → Hp → Prop}, ERel K mg B O σ H env → (∀ i ∈ Tg.slotss l, O i = none) → Reps mg (Lv B O false) H vs ds → gDs l ds env = some env' →
    (∀ σ', ERel K mg B O σ' H env' → Only1 σ σ' (Tg.slotss l) → Q σ' H) → tgRs K l vs σ H Q
  | [], O, σ, env, env', vs, ds, H, Q, r, hn, rs, e, q => by
    cases ds with
    | nil =>
      simp only [gDs, Option.some.injEq] at e
      subst e
      cases rs
      exact ⟨rfl, q _ r fun _ _ => rfl⟩
    | cons _ _ => simp [gDs] at e
  | g :: gs, O, σ, env, env', vs, ds, H, Q, r, hn, rs, e, q => by
    cases ds with
    | nil => simp [gDs] at e
    | cons d ds =>
      simp only [gDs] at e
      obtain ⟨e1, h1, h2⟩ := bnd e
      cases rs with
      | cons rv rs =>
        refine ⟨_, _, rfl, tgR_oks g r (fun i hi => hn i (by simp [Tg.slotss, hi])) rv h1 fun σ1 r1 w1 => ?_⟩
        refine tgRs_oks gs r1 (fun i hi => hn i (by simp [Tg.slotss, hi])) rs h2 fun σ2 r2 w2 => q _ r2 fun vs hv => ?_
        simp only [Tg.slotss, List.mem_append] at hv
        rw [w2 vs fun i hi => hv i (.inr hi), w1 vs fun i hi => hv i (.inl hi)]
end
theorem lc_of {K : PySem.W.Frag} {mg : Str → Option Value} {di : Ax} {g : Tg} {dt : Tx} {tt : TT} {te : Ex} {ws : List Nat} {σ : L2.St} {H : Hp} {Q : VK} (hw : ∀ i ∈ g.slots, i ∈ ws)
    (htt : ∀ B O σ env b H Q, ERel K mg B O σ H env → dt env = some b → (∀ H', Same H H' → Q b H') → tt σ H Q)
    (h : tN K mg (lcE di g dt te ws) σ H Q) : tLc (tI K mg di) (tgR K g) tt (tE K mg false te) ws σ H Q := by
  obtain ⟨B, O, env, d, rl, e, q⟩ := h
  obtain ⟨xs, hx, e⟩ := bnd e
  split at e
  · rename_i hz
    obtain ⟨hz, hno⟩ := hz
    obtain ⟨ys, hr, e⟩ := bnd e
    cases e
    refine ⟨B, O, env, xs, rl, hx, fun J H1 s1 wk => fun D hD => ?_⟩
    have rl1 := rl.heap s1
    have hws : ∀ i ∈ ws, i < σ.length := fun i hi => by
      have z := List.all_eq_true.mp hno i hi
      rw [← rl.len]
      cases e : (env[i]? : Option DSlot) with
      | none => rw [e] at z; cases z
      | some x => exact (List.getElem?_eq_some_iff.mp e).1
    have noO : ∀ i ∈ ws, O i = none := fun i hi => rl.noO hno hi (by rw [rl.len]; exact hws i hi)
    obtain ⟨n, hnl, rm, sub⟩ := (rl1.wip ws hno).more (o := .lst []) hD trivial
    have hOn : putO O n D n = some D := by unfold putO; rw [if_pos rfl]
    have hlen : (PV.wip env ws).length = σ.length := by rw [wip_len]; exact rl.len
    have noP : ∀ i ∈ g.slots, putO O n D i = none := fun i hi => by
      have := hws i (hw i hi)
      unfold putO
      rw [if_neg (by omega)]
      exact noO i (hw i hi)
    refine ⟨fun i m H' => m = xs.length - i ∧ i ≤ xs.length ∧ ∃ vs ys1 ys2, H' D = some (.lst vs) ∧ ERel K mg B (putO O n D) (wipe σ ws) H' (PV.wip env ws) ∧ Reps mg (Lv B (putO O n D) false) H' vs ys1 ∧ ys1.length ≤ i ∧ lcRun (gD g) dt te (PV.wip env ws) (xs.drop i) = some ys2 ∧ ys = ys1 ++ ys2 ∧ Same H1 H',
      ⟨xs.length, by simp, Nat.zero_le _, [], [], ys, upd_same, rm, .nil, Nat.le_refl _, by simpa using hr, rfl, same_upd hD⟩, ?_⟩
    rintro i m H' ⟨rfl, hi', vs, ys1, ys2, hHD, rl', rs, hly, hrun, hys, sm⟩
    by_cases hlt : i < xs.length
    · have hxi : xs[i]? = some xs[i] := List.getElem?_eq_getElem hlt
      obtain ⟨go, yl⟩ := (wk i H' (Same.keep sm)).1 _ hxi
      rw [List.drop_eq_getElem_cons hlt] at hrun
      unfold lcRun at hrun
      obtain ⟨e1, he1, hrun⟩ := bnd hrun
      obtain ⟨c, hc, hrun⟩ := bnd hrun
      refine .inr ⟨go, fun H'' => ∃ vs ys1 ys2, H'' D = some (.lst vs) ∧ ERel K mg B (putO O n D) (wipe σ ws) H'' (PV.wip env ws) ∧ Reps mg (Lv B (putO O n D) false) H'' vs ys1 ∧ ys1.length ≤ i + 1 ∧ lcRun (gD g) dt te (PV.wip env ws) (xs.drop (i + 1)) = some ys2 ∧ ys = ys1 ++ ys2 ∧ Same H1 H'',
        fun H'' z => ⟨xs.length - (i + 1), by omega, rfl, hlt, z⟩, fun v H3 y => ?_⟩
      obtain ⟨s3, rv⟩ := yl v H3 y
      have rl3 := rl'.heap s3
      have rv' : Rep mg (Lv B (putO O n D) false) H3 v xs[i] := rv.mono (fun a ha => ⟨ha.1.1, .inr fun j z => by
        unfold putO at z
        split at z
        · cases z
          obtain ⟨o, ho⟩ := ha.2
          rw [hD] at ho; cases ho
        · exact ha.1.2.elim (fun z => Bool.noConfusion z) fun w => w j z⟩) keepRefl
      refine tgR_oks g rl3 noP rv' he1 fun σ4 r4 w4 => ⟨by rw [w4 ws hw]; exact wipe_idem, ?_⟩
      refine htt B _ σ4 e1 c H3 _ r4 hc fun H5 s5 => ?_
      cases c with
      | true =>
        obtain ⟨yv, hyv, hrun⟩ := bnd hrun
        obtain ⟨ys', hys', hrun⟩ := bnd hrun
        cases hrun
        refine iteT ⟨B, _, e1, yv, r4.heap s5, hyv, fun w H6 s6 rw6 => ?_⟩
        have s36 := s3.trans (s5.trans s6)
        have hD6 : H6 D = some (.lst vs) := s36 _ _ hHD
        have rl6 := rl'.heap s36
        refine ⟨vs, hD6, ?_, vs ++ [w], ys1 ++ [yv], ys', upd_same, rl6.poke hOn (by omega) trivial, ?_, by simp; omega, hys', by rw [hys]; simp, ?_⟩
        · have : vs.length ≤ i := by rw [rs.len]; exact hly
          have hz' := szL_ok hz
          omega
        · have k := keep_write (o' := .lst (vs ++ [w])) rl6 hOn
          exact ((rs.same s36).mono (fun _ z => z) k).append (.cons (rw6.mono (fun _ z => z) k) .nil)
        · exact (sm.trans s36).put hD hD6 trivial
      | false =>
        have s35 := s3.trans s5
        exact iteF ⟨vs, ys1, ys2, s35 _ _ hHD, rl'.heap s35, rs.same s35, by omega, hrun, hys, sm.trans s35⟩
    · have hn : xs[i]? = none := List.getElem?_eq_none (by omega)
      have hdr : xs.drop i = [] := List.drop_eq_nil_of_le (by omega)
      rw [hdr] at hrun
      unfold lcRun at hrun
      cases hrun
      rw [List.append_nil] at hys
      subst hys
      refine .inl ⟨(wk i H' (Same.keep sm)).2 hn, ?_⟩
      refine q D H' (s1.trans sm) (Same.free s1 hD) (.lst hHD (rs.mono (fun a ha => ⟨sub false a ha, fun z => ?_⟩) keepRefl))
      subst z
      exact ha.2.elim (fun z => Bool.noConfusion z) fun w => w n hOn
  · cases e
theorem sn_lc {elt tg iter : Expr} {scope : Scope} {own : List (Str × Nat)} {pos : Pos} {di : Ax} {g : Tg} {te : Ex} (hc : X.calm = true) (hN : X.N.Nodup) (hi : SI X tg iter di) (ok : BlkOk X.N X.env.scope scope own)
    (hg : ∀ (s : Shared) (H : Hp) (C : Addr) (cl : List (Str × Addr)) (fp : List Addr), PT1 (X.blk s H scope (compEnvC scope cl C X.env) fp) tg g)
    (he : ∀ (s : Shared) (H : Hp) (C : Addr) (cl : List (Str × Addr)) (fp : List Addr), SE (X.blk s H scope (compEnvC scope cl C X.env) fp) false elt te) (hw : ∀ i ∈ g.slots, i ∈ own.map (·.2) := by decide) (hs : ∀ x, foldedSetIterable iter X.env x = pure x := by intro _; rfl) {ws : List Nat} (hws : own.map (·.2) = ws := by rfl) :
    SN X (.ListComp elt [⟨tg, iter, [], 0⟩] scope pos) (lcE di g yes te ws) := by
  subst hws
  exact (pe_lc (te := tE X.K X.mg false te) hc hN hi ok (g := tgR X.K g) hg (fun _ _ _ _ _ => pts_nil) he hs).weak fun σ H Q h => lc_of hw (fun B O σ env b H Q _ e q => by cases e; exact q H (Same.refl H)) h
theorem new_of {K : PySem.W.Frag} {mg : Str → Option Value} {D : Ends} {σ : L2.St} {H : Hp} {i : Nat} {de : Ex} (h : tS K mg (newE i de) D σ H) : tN K mg de σ H (fun x H1 => gName i x σ H1 D.nx) := by
  obtain ⟨B, O, env, r, rl, h1, q⟩ := h
  obtain ⟨d, hd, h2⟩ := bnd h1
  cases h2
  exact ⟨B, O, env, d, rl, hd, fun p H1 s hp o => let z := ERel.setOwn (i := i) rl s hp o; q _ H1 _ z.1 z.2⟩
theorem set_of {K : PySem.W.Frag} {mg : Str → Option Value} {D : Ends} {σ : L2.St} {H : Hp} {i : Nat} {de : Ex} (h : tS K mg (setE i de) D σ H) : tN K mg de σ H (fun x H1 => gName i x σ H1 D.nx) := by
  obtain ⟨B, O, env, r, rl, h1, q⟩ := h
  obtain ⟨d, hd, h2⟩ := bnd h1
  cases h2
  exact ⟨B, O, env, d, rl, hd, fun p H1 s hp o => q _ H1 _ (ERel.set (rl.heap s) (o.rep (fun _ z => z.1) (rl.fr p hp))) ((Fm.of_same s).trans (Fm.of_same (Same.refl H1)).off)⟩
section
variable {elt tg iter t : Expr} {scope : Scope} {own : List (Str × Nat)} {pos spos py : Pos} {di : Ax} {g : Tg} {te : Ex} {dt : Tx} {i : Nat} {y : Str}
theorem s_newLc (hc : X.calm = true) (hN : X.N.Nodup) (hsw : swapsWith (.ListComp elt [⟨tg, iter, [], 0⟩] scope pos) (some (.Name y py)) spos.line X.env = pure true) (hi : SI X tg iter di) (ok : BlkOk X.N X.env.scope scope own)
    (hg : ∀ (s : Shared) (H : Hp) (C : Addr) (cl : List (Str × Addr)) (fp : List Addr), PT1 (X.blk s H scope (compEnvC scope cl C X.env) fp) tg g)
    (he : ∀ (s : Shared) (H : Hp) (C : Addr) (cl : List (Str × Addr)) (fp : List Addr), SE (X.blk s H scope (compEnvC scope cl C X.env) fp) false elt te) (hy : X.N[i]? = some y := by rfl) (hyl : X.env.scope.names.lookup y = some .local := by rfl) (hw : ∀ i ∈ g.slots, i ∈ own.map (·.2) := by decide) (hs : ∀ x, foldedSetIterable iter X.env x = pure x := by intro _; rfl) {ws : List Nat} (hws : own.map (·.2) = ws := by rfl) :
    SS X (.Assign [.Name y py] (.ListComp elt [⟨tg, iter, [], 0⟩] scope pos) spos) (newE i (lcE di g yes te ws)) := by
  subst hws
  exact (ps_setLc (te := tE X.K X.mg false te) hc hN hy hyl hsw hi ok (g := tgR X.K g) hg (fun _ _ _ _ _ => pts_nil) he hs).weak fun D σ H h => lc_of hw (fun B O σ env b H Q _ e q => by cases e; exact q H (Same.refl H)) (new_of h)
theorem s_setLc (hc : X.calm = true) (hN : X.N.Nodup) (hsw : swapsWith (.ListComp elt [⟨tg, iter, [], 0⟩] scope pos) (some (.Name y py)) spos.line X.env = pure true) (hi : SI X tg iter di) (ok : BlkOk X.N X.env.scope scope own)
    (hg : ∀ (s : Shared) (H : Hp) (C : Addr) (cl : List (Str × Addr)) (fp : List Addr), PT1 (X.blk s H scope (compEnvC scope cl C X.env) fp) tg g)
    (he : ∀ (s : Shared) (H : Hp) (C : Addr) (cl : List (Str × Addr)) (fp : List Addr), SE (X.blk s H scope (compEnvC scope cl C X.env) fp) false elt te) (hy : X.N[i]? = some y := by rfl) (hyl : X.env.scope.names.lookup y = some .local := by rfl) (hw : ∀ i ∈ g.slots, i ∈ own.map (·.2) := by decide) (hs : ∀ x, foldedSetIterable iter X.env x = pure x := by intro _; rfl) {ws : List Nat} (hws : own.map (·.2) = ws := by rfl) :
    SS X (.Assign [.Name y py] (.ListComp elt [⟨tg, iter, [], 0⟩] scope pos) spos) (setE i (lcE di g yes te ws)) := by
  subst hws
  exact (ps_setLc (te := tE X.K X.mg false te) hc hN hy hyl hsw hi ok (g := tgR X.K g) hg (fun _ _ _ _ _ => pts_nil) he hs).weak fun D σ H h => lc_of hw (fun B O σ env b H Q _ e q => by cases e; exact q H (Same.refl H)) (set_of h)
end
theorem s_app {i : Nat} {x : Str} {e : Expr} {de : Ex} {px apos cpos pos : Pos} (he : SE X false e de) (hN : X.N[i]? = some x := by rfl) (hv : Vis X.env.scope x := by first | exact Or.inl rfl | exact Or.inr (Or.inl rfl) | exact Or.inr (Or.inr rfl)) (hd : (x == ("__debug__" : Str)) = false := by decide)
    (hcd : (x == ("__classdict__" : Str)) = false := by decide) (hbase : attributeBase (.Name x px) "append" X.env (eval (.Name x px) X.env) = eval (.Name x px) X.env := by rfl)
    (hfew : ((backTo cpos (starEach (e :: []) X.env)).all (fun x => !x.1) && (backToKw cpos (keywordEach [] X.env)).all (fun x => x.1.isSome)
      && decide ((e :: []).length + ([] : List Keyword).length + (if ([] : List Keyword).isEmpty then 0 else 1) < 30)) = true := by rfl)
    (hline : (apos.endLine == cpos.line) = true := by rfl) (hs : starEach (e :: []) X.env = (false, eval e X.env) :: starEach [] X.env := by rfl) (hplain : (backTo cpos (starEach [] X.env)).any (·.1) = false := by rfl)
    (hsw : swapsWith (.Call (.Attribute (.Name x px) "append" apos) [e] [] cpos) none pos.line X.env = pure false := by rfl) :
    SS X (.Expr (.Call (.Attribute (.Name x px) "append" apos) [e] [] cpos) pos) (app i de) :=
  (ps_expr (pe_bm PySem.F.plainAttrs_list PySem.F.slot_list_append PySem.F.type_list_append mt_append (pe_var hN hv hd hcd) (pa_cons he pa_nil hs) hbase hfew hline hs hplain) hsw).weak fun D σ H ⟨B, O, env, r, rl, h1, q⟩ => by
  obtain ⟨d, hd, h2⟩ := bnd h1
  split at h2
  · rename_i xs hi
    split at h2
    · rename_i hz
      cases h2
      obtain ⟨p, g1, g2, g3, g4⟩ := rl.owns i _ hi
      cases g4 with
      | lst hH rs =>
        refine ⟨_, g2, .inl ⟨rfl, _, .inl (.inl hH)⟩, B, O, env, d, rl, hd, fun v H1 s1 r1 => ?_⟩
        have rl1 := rl.heap s1
        have hH1 := s1 _ _ hH
        refine ⟨p, _, v, rfl, rfl, hH1, by rw [rs.len]; exact Nat.lt_of_lt_of_le hz (szL_ok (Nat.le_refl _)), ?_⟩
        have z := ERel.write (i := i) (p := p) (d' := .lst (xs ++ [d])) rl1 g1 g2 (.lst upd_same (((rs.same s1).append (.cons r1 .nil)).mono (fun _ z => z) (keep_write rl1 g1))) trivial
        exact q σ _ O z.1 ((Fm.of_same s1).trans z.2)
    · cases h2
  · cases h2
end
end PV

namespace PV
variable [LT] [RT]
open PySem PySem.Spec PyProof.Rows L2
def tupD : D → Option D
  | .lst xs => some (.tup xs)
  | .tup xs => some (.tup xs)
  | _ => none
def listD : D → Option D
  | .lst xs => some (.lst xs)
  | .tup xs => some (.lst xs)
  | _ => none
def isBD : D → D → Option Bool
  | .bl a, .bl b => some (a == b)
  | _, _ => none
def stuck : Sx := fun _ => none
def drpA (a b : Ex) : Sx := fun e => (a e).bind fun d => (b e).bind fun _ => match d with
  | .lst xs => if xs.length < szL then some (.nx e) else none
  | _ => none
def inC (n : Bool) (ds : List D) (a : Ex) : Tx := fun e => (a e).bind fun d => match d with
  | .int i => some (n != ds.any fun z => D.eqv z (.int i))
  | _ => none
def look (t : List (Int × Int)) (i : Int) : Option Int := match t with
  | [] => none
  | (a, b) :: r => if a = i then some b else look r i
def tabI (t : List (Int × Int)) : D → Option D
  | .int i => (look t i).map D.int
  | _ => none
def sumT : D → Option D
  | .lst xs => (intsOf xs).map fun ns => .int ns.sum
  | .tup xs => (intsOf xs).map fun ns => .int ns.sum
  | _ => none
section
variable {X : Cx} {τ : Bool}
theorem SE.flat {e : Expr} {de : Ex} (h : SE X true e de) (hi : ∀ env d, de env = some d → d.imm = true) : SE X τ e de := h.weak fun σ H Q ⟨B, O, env, d, r, h1, q⟩ => ⟨B, O, env, d, r, h1, fun v H' s rv => q v H' s (rv.immut (hi env d h1))⟩
theorem imm_cal {f : D → Option D} {da : Ax} {env : DEnv} {d : D} (hf : ∀ x y, f x = some y → y.imm = true) (h : cal (f1 f) da env = some d) : d.imm = true := by
  obtain ⟨ds, _, h2⟩ := bnd h
  obtain ⟨x, _, h3⟩ := f1_one h2
  exact hf x d h3
theorem imm_lenD (x y : D) (h : lenD x = some y) : y.imm = true := by
  cases x <;> simp only [lenD, reduceCtorEq] at h
  · split at h <;> cases h
    rfl
  all_goals (cases h; rfl)
theorem imm_intD (x y : D) (h : intD x = some y) : y.imm = true := by
  cases x <;> simp only [intD, reduceCtorEq] at h <;> (cases h; rfl)
theorem imm_allL (x y : D) (h : allL x = some y) : y.imm = true := by
  cases x <;> simp only [allL, reduceCtorEq] at h
  obtain ⟨ns, _, h2⟩ := Option.map_eq_some_iff.mp h
  cases h2; rfl
theorem se_bltI {f : D → Option D} {id : String} {x : Str} {e : Expr} {es : List Expr} {da : Ax} {p pos : Pos} (hf : ∀ x y, f x = some y → y.imm = true) (hc : CallR X (.builtin id) (rC X.mg (f1 f))) (hm : X.mg x = none) (hv : bootBuiltins x = some (.builtin id)) (ha : SA X true (e :: es) da) (hg : Gl X x := by rfl) (hn : x ≠ "__name__" := by decide) (hdb : (x == ("__debug__" : Str)) = false := by decide)
    (he : starEach (e :: es) X.env = (false, eval e X.env) :: starEach es X.env := by rfl) (hpl : (backTo pos (starEach es X.env)).any (·.1) = false := by rfl) : SE X τ (.Call (.Name x p) (e :: es) [] pos) (cal (f1 f) da) := (se_blt hc hm hv ha hg hn hdb he hpl).flat fun _ _ h => imm_cal hf h
theorem se_btyI {f : D → Option D} {T : String} {x : Str} {e : Expr} {es : List Expr} {da : Ax} {p pos : Pos} (hf : ∀ x y, f x = some y → y.imm = true) (hc : CallR X (.type T) (rC X.mg (f1 f))) (hm : X.mg x = none) (hv : bootBuiltins x = some (.type T)) (ha : SA X true (e :: es) da) (hg : Gl X x := by rfl) (hn : x ≠ "__name__" := by decide) (hdb : (x == ("__debug__" : Str)) = false := by decide)
    (he : starEach (e :: es) X.env = (false, eval e X.env) :: starEach es X.env := by rfl) (hpl : (backTo pos (starEach es X.env)).any (·.1) = false := by rfl) : SE X τ (.Call (.Name x p) (e :: es) [] pos) (cal (f1 f) da) := (se_bty hc hm hv ha hg hn hdb he hpl).flat fun _ _ h => imm_cal hf h
theorem tupleOnce (l : Addr) (xs : Array Value) (n : Nat) (dd : Option Addr) (sl : Array (Option Value)) (u : Tok) : Meets (Builtin.«tuple.__mul__» ⟨[.ref l, .int 1 u], []⟩) (fun _ R s => s.heap.get? l = some { cls := .type "tuple", dict := dd, data := .seq xs n, slots := sl } ∧ R (.ok (.ret (.ref l))) s) :=
  .of_wp fun P w A R s h => by
    obtain ⟨hp, g, d, tk, os⟩ := s
    obtain ⟨hl, h⟩ := h
    have idx := AutoSeq1.idx_int
    have one : (xs.isEmpty || (1 : Int) == 1) = true := by simp
    wp_walk using wpAny_loadPart' hl
    repeat (first
      | (refine wpAny_ite_true (by simp) ?_; wp_walk using wpAny_loadPart' hl)
      | (refine wpAny_ite_false (by decide) ?_; wp_walk using wpAny_loadPart' hl))
    exact ⟨_, rfl, h⟩
theorem op_once : OpR X (binaryOp .Mult) (fun x y H Q => ∃ l xs, x = .ref l ∧ y = .int 1 ∧ SqT X.K H l xs ∧ Q (.ref l) H) := by
  intro pins s σ H x y v u Q I rx ry ⟨l, xs, ex, ey, hT, q⟩
  subst ex ey
  cases rx
  obtain ⟨t, rfl⟩ := ry
  obtain ⟨its, r, ⟨⟨c, dd, data, sl⟩, ho, hc, n, hd⟩, hs⟩ := I.tuple hT
  dsimp only at hc hd
  subst hc hd
  exact wpAny_binaryOp_repeat_ref (T := "tuple") (U := "int") (by decide) ⟨_, ho, rfl⟩ (fun s' => typeIs_int s' 1 t) noFill_tuple_mul F.fills_int_mul F.slot_int_rmul repeat_tuple F.slot_int_index.lookup
    (call_meets F.slot_int_rmul (typeIs_int s 1 t) F.entry_int_rmul (F.args_int_rmul_2 _ _) (int_rmul_tuple 1 t l its.toArray n dd sl)
      ⟨ho, rfl, ⟨_, ho, rfl⟩, call_meets F.slot_tuple_mul ⟨_, ho, rfl⟩ F.entry_tuple_mul (F.args_tuple_mul_2 _ _) (tupleOnce l its.toArray n dd sl t) ⟨ho, .ref l, H, I, rfl, q⟩⟩)
theorem op_mulD : OpR X (binaryOp .Mult) (rD X.mg mulD) := by
  intro pins s σ H x y v u Q I rx ry ⟨A, dx, dy, d, fr, r1, r2, e, q⟩
  cases r1 <;> cases r2 <;> simp only [mulD, reduceCtorEq] at e
  · rename_i i j
    split at e
    · rename_i h
      simp only [Bool.or_eq_true] at h
      cases e
      have h' : CMul i j := h.imp b64_ok b64_ok
      exact op_mul pins s σ H _ _ v u Q I rx ry ⟨_, _, rfl, rfl, h', q _ H (Same.refl H) (.int _)⟩
    · cases e
  · rename_i a xs ds hh t k
    split at e
    · rename_i h
      simp only [Bool.and_eq_true, decide_eq_true_eq, Bool.not_eq_true'] at h
      obtain ⟨⟨⟨h1, h2⟩, h3⟩, h4⟩ := h
      cases e
      have hne : xs ≠ [] := fun z => by
        subst z
        have := t.len
        cases ds
        · cases h1
        · simp at this
      by_cases hk : k = 1
      · subst hk
        have e1 : (List.replicate (Int.toNat 1) ds).flatten = ds := by simp
        rw [e1] at q
        exact op_once pins s σ H _ _ v u Q I rx ry ⟨a, xs, rfl, rfl, .inl (.inl hh), q _ H (Same.refl H) (.tup hh t)⟩
      have h2 : 2 ≤ k := by omega
      refine op_repT pins s σ H _ _ v u Q I rx ry ⟨a, k, xs, rfl, rfl, .inl (.inl hh), hne, h2, h3, by rw [t.len]; exact h4, fun p hp => q _ _ (same_upd hp) (.tup upd_same ?_)⟩
      exact (Reps.rep k.toNat t).same (same_upd hp)
    · cases e
theorem sn_list {e : Expr} {de : Ex} {p pos : Pos} (hm : X.mg "list" = none) (h : SE X false e de) (hg : Gl X "list" := by rfl) (he : starEach [e] X.env = (false, eval e X.env) :: starEach [] X.env := by rfl) (hpl : (backTo pos (starEach [] X.env)).any (·.1) = false := by rfl) : SN X (.Call (.Name "list" p) [e] [] pos) (op1 listD de) := (pe_callTy call_list_of hg hm boot_list (sa_cons h sa_nil he) (by decide) (by decide) he hpl).weak fun σ H Q ⟨B, O, env, d, r, h1, q⟩ => by
  obtain ⟨x, hx, h2⟩ := bnd h1
  refine ⟨B, O, env, [x], r, by show (de env).bind _ = _; rw [hx]; rfl, fun vs H1 s1 r1 => ?_⟩
  obtain ⟨v, rfl, rx⟩ := reps_one r1
  cases rx <;> simp only [listD, reduceCtorEq] at h2
  · rename_i a xs ds h t
    cases h2
    exact ⟨a, xs, rfl, .inr (.inl (.inl h)), fun p hp => q p _ (s1.trans (same_upd hp)) (Same.free s1 hp) (.lst upd_same ((Reps.ne hp t).same (same_upd hp)))⟩
  · rename_i a xs ds ha h t
    cases h2
    exact ⟨a, xs, rfl, .inl (.inl (.inl h)), fun p hp => q p _ (s1.trans (same_upd hp)) (Same.free s1 hp) (.lst upd_same ((Reps.ne hp t).same (same_upd hp)))⟩
theorem s_stuck {e : Stmt} : SS X e stuck := ⟨fun pins s σ H D I ⟨B, O, env, r, rl, h1, q⟩ => nomatch h1⟩
theorem at_nil {K : PySem.W.Frag} {mg : Str → Option Value} {f : Str} : ∀ c ∈ ([] : List Str), AtOk K mg c f := fun c h => nomatch h
theorem at_cons {K : PySem.W.Frag} {mg : Str → Option Value} {f c : Str} {cs : List Str} (h : AtOk K mg c f) (t : ∀ c ∈ cs, AtOk K mg c f) : ∀ d ∈ c :: cs, AtOk K mg d f := fun d hd => by
  rcases List.mem_cons.mp hd with z | z
  · rw [z]; exact h
  · exact t d z
end
end PV

namespace PV
variable [LT] [RT]
open PySem PySem.Spec PyProof.Rows L2
theorem eqv_kD (a b : Key) : D.eqv (kD a) (kD b) = decide (a = b) := by
  cases a <;> cases b <;> simp [kD, D.eqv, Bool.beq_eq_decide_eq]
theorem eqv_kDs : ∀ (a b : List Key), D.eqvs (a.map kD) (b.map kD) = decide (a = b)
  | [], [] => rfl
  | [], _ :: _ => rfl
  | _ :: _, [] => rfl
  | x :: xs, y :: ys => by
    simp only [List.map_cons, D.eqvs, eqv_kD, eqv_kDs xs ys]
    by_cases h : x = y <;> by_cases h2 : xs = ys <;> simp [h, h2]
theorem eqv_kT (a b : List Key) : D.eqv (.tup (a.map kD)) (.tup (b.map kD)) = decide (a = b) := by
  simp only [D.eqv]; exact eqv_kDs a b
section
variable {mg : Str → Option Value} {A : Addr → Prop} {H : Hp} {v : V} {x : D}
theorem dget_some {κ : Type} [DecidableEq κ] {f : κ → D} (hf : ∀ a b, D.eqv (f a) (f b) = decide (a = b)) {k : κ} {d : D} : ∀ {kvs : List (κ × V)} {ds : List D}, Reps mg A H (kvs.map (·.2)) ds → dget (kvs.map fun p => f p.1) ds (f k) = some d → ∃ v, L2.valV kvs k = some v ∧ Rep mg A H v d
  | [], _, .nil, e => by simp [dget] at e
  | p :: kvs, _, .cons h t, e => by
    simp only [List.map_cons, dget, hf] at e
    by_cases hk : p.1 = k
    · rw [if_pos (decide_eq_true hk)] at e
      cases e
      exact ⟨p.2, valV_pos hk, h⟩
    · rw [if_neg (by simpa using hk)] at e
      obtain ⟨v, h1, h2⟩ := dget_some hf t e
      exact ⟨v, by rw [valV_neg hk]; exact h1, h2⟩
theorem dget_none {κ : Type} [DecidableEq κ] {f : κ → D} (hf : ∀ a b, D.eqv (f a) (f b) = decide (a = b)) {k : κ} : ∀ {kvs : List (κ × V)} {ds : List D}, Reps mg A H (kvs.map (·.2)) ds → dget (kvs.map fun p => f p.1) ds (f k) = none → L2.valV kvs k = none
  | [], _, .nil, e => rfl
  | p :: kvs, _, .cons h t, e => by
    simp only [List.map_cons, dget, hf] at e
    by_cases hk : p.1 = k
    · rw [if_pos (decide_eq_true hk)] at e
      cases e
    · rw [if_neg (by simpa using hk)] at e
      rw [valV_neg hk]
      exact dget_none hf t e
theorem dupd_map {κ : Type} [DecidableEq κ] {f : κ → D} (hf : ∀ a b, D.eqv (f a) (f b) = decide (a = b)) {k : κ} {w : V} {d : D} (hw : Rep mg A H w d) : ∀ {kvs : List (κ × V)} {ds : List D}, Reps mg A H (kvs.map (·.2)) ds → Reps mg A H ((kvs.map fun kv => if kv.1 = k then (kv.1, w) else kv).map (·.2)) (dupd (kvs.map fun p => f p.1) ds (f k) d)
  | [], _, .nil => .nil
  | p :: kvs, _, .cons h t => by
    simp only [List.map_cons, dupd, hf]
    by_cases hk : p.1 = k
    · rw [if_pos hk, if_pos (decide_eq_true hk)]
      exact .cons hw (dupd_map hf hw t)
    · rw [if_neg hk, if_neg (by simpa using hk)]
      exact .cons h (dupd_map hf hw t)
theorem dput_put {κ : Type} [DecidableEq κ] {f : κ → D} (hf : ∀ a b, D.eqv (f a) (f b) = decide (a = b)) {k : κ} {w : V} {d : D} (hw : Rep mg A H w d) {kvs : List (κ × V)} {ds : List D} (r : Reps mg A H (kvs.map (·.2)) ds) :
    (L2.putK kvs k w).map (fun p => f p.1) = (dput (kvs.map fun p => f p.1) ds (f k) d).1 ∧ Reps mg A H ((L2.putK kvs k w).map (·.2)) (dput (kvs.map fun p => f p.1) ds (f k) d).2 := by
  unfold L2.putK dput
  rw [valV_any]
  cases hd : dget (kvs.map fun p => f p.1) ds (f k) with
  | none =>
    rw [dget_none hf r hd]
    simp only [Option.isSome_none, Bool.false_eq_true, ↓reduceIte, List.map_append, List.map_cons, List.map_nil, true_and]
    exact r.append (.cons hw .nil)
  | some d' =>
    obtain ⟨v, h1, h2⟩ := dget_some hf r hd
    rw [h1]
    simp only [Option.isSome_some, ↓reduceIte]
    refine ⟨?_, dupd_map hf hw r⟩
    rw [List.map_map]
    apply List.map_congr_left
    intro p _
    simp only [Function.comp]
    split <;> rfl
end
section
variable {X : Cx} {τ : Bool}
theorem s_stL {i : Nat} {x : Str} {e k : Expr} {de dk : Ex} {px pos pos' : Pos} (hk : SE X true k dk) (he : SE X false e de) (hN : X.N[i]? = some x := by rfl) (hv : Vis X.env.scope x := by first | exact Or.inl rfl | exact Or.inr (Or.inl rfl) | exact Or.inr (Or.inr rfl)) (hd : (x == ("__debug__" : Str)) = false := by decide)
    (hcd : (x == ("__classdict__" : Str)) = false := by decide)
    (ha : ∀ v, assign (.Subscript (.Name x px) k pos') X.env v = (do
      let ov ← holding [v] (eval (.Name x px) X.env)
      let iv ← holding [v, ov] (eval k X.env)
      standAt pos'
      holding [v, ov, iv] (setItem ov iv v)
      release [v, ov, iv] []) := by intro _; rfl)
    (hs : swapsWithSole [.Subscript (.Name x px) k pos'] e pos.line X.env = pure false := by rfl) (hw : swappedStores [.Subscript (.Name x px) k pos'] e X.env = pure none := by rfl)
    (h1 : (assignEach [.Subscript (.Name x px) k pos'] X.env).map (·.2) = [assign (.Subscript (.Name x px) k pos') X.env] := by rfl) :
    SS X (.Assign [.Subscript (.Name x px) k pos'] e pos) (stL i dk de) := (ps_asg he (pg_sub (pe_var hN hv hd hcd) hk set_list ha) hs hw h1).weak fun D σ H ⟨B, O, env, r, rl, h1, q⟩ => by
  obtain ⟨d, hd, h1⟩ := bnd h1
  obtain ⟨kd, hkd, h1⟩ := bnd h1
  split at h1
  · rename_i xs n hi
    obtain ⟨j, hj, h1⟩ := bnd h1
    cases h1
    refine ⟨B, O, env, d, rl, hd, fun v H1 s1 r1 => ?_⟩
    obtain ⟨p, g1, g2, g3, g4⟩ := (rl.heap s1).owns i _ hi
    refine ⟨_, g2, B, O, env, _, rl.heap s1, hkd, fun y H2 s2 r2 => ?_⟩
    have rl2 := (rl.heap s1).heap s2
    have r1' := r1.same s2
    obtain ⟨p', g1', g2', g3', g4'⟩ := rl2.owns i _ hi
    rw [g1] at g1'; cases g1'
    cases g4'
    rename_i ws hH rs
    cases r2
    refine ⟨p, ws, n, j, rfl, rfl, hH, ?_, ?_⟩
    · rw [rs.len]; exact hj
    · have z := ERel.write (i := i) (p := p) (o' := .lst (ws.set j v)) (d' := .lst (xs.set j d)) rl2 g1 g2' (.lst upd_same ((rs.set j r1').mono (fun _ z => z) (keep_write rl2 g1))) trivial
      exact q σ _ O z.1 ((Fm.of_same (s1.trans s2)).trans z.2)
  · cases h1
theorem ERel.frz {K : PySem.W.Frag} {mg : Str → Option Value} {B : Bs} {H : Hp} {O : Nat → Option Addr} {σ : L2.St} {env : DEnv} {j : Nat} {d : D} (rl : ERel K mg B O σ H env) (e : env[j]? = some (DSlot.own d)) :
    ∃ p, σ[j]? = some (some (.ref p)) ∧ Rep mg (Lv B (offO O j) false) H (.ref p) d ∧ ERel K mg B (offO O j) σ H (env.set j .no) := by
  obtain ⟨p, h2, h3, h4, h5⟩ := rl.owns j d e
  have hl : j < env.length := (List.getElem?_eq_some_iff.mp e).1
  have rv : Rep mg (Lv B (offO O j) false) H (.ref p) d := h5.rep (fun _ z => z.off) ⟨.inr h4, .inr fun k z => (offO_some z).1 (rl.inj k j p (offO_some z).2 h2)⟩
  have up : ∀ a, Lv B O false a → Lv B (offO O j) false a := fun a h => h.off
  refine ⟨p, h3, rv, ⟨by simp [rl.len], rl.same, fun k d' e => ?_, fun k d' e => ?_, fun k d' e => ?_, fun k l p a b => rl.inj k l p (offO_some a).2 (offO_some b).2, fun k p a => rl.trk k p (offO_some a).2, fun k p a => rl.fr0 k p (offO_some a).2, bd_off rl.bd, fun k p a hk => ?_⟩⟩
  · rcases get_set e with ⟨rfl, e2, hl⟩ | ⟨hj, e2⟩
    · cases e2
    · obtain ⟨w, h1, h2⟩ := rl.vals k d' e2
      exact ⟨w, h1, h2.mono up keepRefl⟩
  · rcases get_set e with ⟨rfl, e2, hl⟩ | ⟨hj, e2⟩
    · cases e2
    · obtain ⟨p, h1, h2, h3, h4⟩ := rl.owns k d' e2
      exact ⟨p, by unfold offO; rw [if_neg hj]; exact h1, h2, h3, h4.mono up keepRefl fun _ z => z⟩
  · rcases get_set e with ⟨rfl, e2, hl⟩ | ⟨hj, e2⟩
    · cases e2
    · obtain ⟨h1, h2, h4⟩ := rl.slfs k d' e2
      exact ⟨by unfold offO; rw [if_neg hj]; exact h1, h2, h4.mono up keepRefl fun _ z => z⟩
  · obtain ⟨h1, h2⟩ := offO_some a
    rw [List.getElem?_set_ne (Ne.symm h1)]
    exact rl.nst k p h2 (by simpa using hk)
end
end PV

namespace PV
variable [LT] [RT]
open PySem PySem.Spec PyProof.Rows L2
structure ZF (fa : List He.Fa) (fn : List He.DefD) (ex : List (PySem.W.Frag → Bool)) (K : PySem.W.Frag) (mg : Str → Option Value) : Prop where
  says : He.SaysD fa fn K
  more : (ex.all fun f => f K) = true
  ns : ∃ h, K.In h ∧ h.Ns mainGlobals mg
section
variable {fa : List He.Fa} {fn : List He.DefD} {ex : List (PySem.W.Frag → Bool)} {K : PySem.W.Frag} {mg : Str → Option Value} (Z : ZF fa fn ex K mg)
include Z
theorem ZF.exf (i : Nat) {f : PySem.W.Frag → Bool} (h : ex[i]? = some f := by rfl) : f K = true := List.all_eq_true.mp Z.more f (List.mem_of_getElem? h)
theorem ZF.glo (i : Nat) {x : Str} (h : fa[i]? = some (.glo x) := by rfl) : mg x = some (.ref (He.ga K x)) := let ⟨_, a, b⟩ := Z.ns; He.glo_ok a b (Z.says.fact i h)
theorem ZF.free (i : Nat) {x : Str} (h : fa[i]? = some (.free x) := by rfl) : mg x = none := let ⟨_, a, b⟩ := Z.ns; He.free_ok a b (Z.says.fact i h)
theorem ZF.int (i : Nat) {x : Str} {n : Int} (h : fa[i]? = some (.int x n) := by rfl) : ∃ t, mg x = some (.int n t) := let ⟨_, a, b⟩ := Z.ns; He.int_ok a b (Z.says.fact i h)
theorem ZF.str (i : Nat) {x z : Str} (h : fa[i]? = some (.str x z) := by rfl) : ∃ t, mg x = some (.str z t) := let ⟨_, a, b⟩ := Z.ns; He.str_ok a b (Z.says.fact i h)
theorem ZF.at (i j k : Nat) {c f : Str} (h : fa[i]? = some (.glo c) := by rfl) (h2 : fa[j]? = some (.cls c) := by rfl) (h3 : fa[k]? = some (.noat c f) := by rfl) : AtOk K mg c f := ⟨_, Z.glo i h, He.cls_ok (Z.says.fact j h2), He.noat_ok (Z.says.fact k h3)⟩
end
section
variable {X : Cx} {τ : Bool}
theorem se_gint {x : Str} {n : Int} {pos : Pos} (h : ∃ t, X.mg x = some (.int n t)) (hg : Gl X x := by rfl) (hd : (x == ("__debug__" : Str)) = false := by decide) : SE X τ (.Name x pos) (cst (.int n)) := by
  obtain ⟨t, h⟩ := h
  exact (pe_glob (v := .int n) hg h ⟨t, rfl⟩ hd).weak fun σ H Q ⟨B, O, env, d, r, h1, q⟩ => by cases h1; exact q _ H (Same.refl H) (.int n)
theorem se_gstr {x z : Str} {pos : Pos} (h : ∃ t, X.mg x = some (.str z t)) (hg : Gl X x := by rfl) (hd : (x == ("__debug__" : Str)) = false := by decide) : SE X τ (.Name x pos) (cst (.str z)) := by
  obtain ⟨t, h⟩ := h
  exact (pe_glob (v := .str z) hg h ⟨t, rfl⟩ hd).weak fun σ H Q ⟨B, O, env, d, r, h1, q⟩ => by cases h1; exact q _ H (Same.refl H) (.str z)
def tupIB (x : Str) (ns : List Int) (K : PySem.W.Frag) : Bool := He.tupB K x (ns.map .int)
def entB : List DictEntry → List (Int × Int) → Bool
  | [], [] => true
  | e :: es, (a, b) :: t => (match e.key, e.val with
    | .int k _, .int v _ => decide (k = a) && decide (v = b) && decide (e.hash = hashInt a)
    | _, _ => false) && entB es t
  | _, _ => false
def tabIB (x : Str) (t : List (Int × Int)) (K : PySem.W.Frag) : Bool := match K.lookup (He.ga K x) with
  | some ⟨.type c, none, .dict es _, sl⟩ => decide (c = "dict") && sl.isEmpty && entB es.toList t
  | _ => false
theorem tabIB_ok {K : PySem.W.Frag} {x : Str} {t : List (Int × Int)} (h : tabIB x t K = true) : ∃ (es : Array DictEntry) (n : Nat), K.lookup (He.ga K x) = some ⟨.type "dict", none, .dict es n, #[]⟩ ∧ entB es.toList t = true := by
  unfold tabIB at h
  cases e : K.lookup (He.ga K x) with
  | none => rw [e] at h; cases h
  | some o =>
    obtain ⟨oc, od, dt, sl⟩ := o
    rw [e] at h
    cases oc <;> try (cases h)
    cases od <;> try (cases h)
    cases dt <;> try (cases h)
    rename_i c es n
    simp only [Bool.and_eq_true, decide_eq_true_eq, Array.isEmpty_iff] at h
    obtain ⟨⟨rfl, rfl⟩, h3⟩ := h
    exact ⟨es, n, rfl, h3⟩
theorem ent_shape : ∀ {es : List DictEntry} {t : List (Int × Int)}, entB es t = true → (∀ e ∈ es, ∃ k u, e.key = .int k u ∧ e.hash = hashInt k) ∧ ∀ i b, look t i = some b → ∃ e u, es.find? (fun e => keyIs (.inl i) e.key) = some e ∧ e.val = .int b u
  | [], [], _ => ⟨fun e he => (nomatch he), fun i b h => by cases h⟩
  | [], _ :: _, h => by cases h
  | _ :: _, [], h => by cases h
  | e :: es, (a, b) :: t, h => by
    unfold entB at h
    rw [Bool.and_eq_true] at h
    obtain ⟨h1, h2⟩ := h
    obtain ⟨i1, i2⟩ := ent_shape h2
    split at h1
    · rename_i k u v w e1 e2
      simp only [Bool.and_eq_true, decide_eq_true_eq] at h1
      obtain ⟨⟨rfl, rfl⟩, h3⟩ := h1
      refine ⟨fun e' he => ?_, fun i b' hb => ?_⟩
      · rcases List.mem_cons.mp he with rfl | he
        · exact ⟨k, u, e1, h3⟩
        · exact i1 e' he
      · unfold look at hb
        split at hb
        · rename_i hk
          subst hk
          cases hb
          refine ⟨e, w, ?_, e2⟩
          rw [List.find?_cons, e1]
          simp [keyIs, Value.isInt]
        · rename_i hk
          obtain ⟨e', u', h4, h5⟩ := i2 i b' hb
          refine ⟨e', u', ?_, h5⟩
          rw [List.find?_cons, e1]
          have : keyIs (.inl i) (.int k u) = false := by simp [keyIs, Value.isInt]; omega
          rw [this]
          exact h4
    · cases h1
theorem se_tabI {x : Str} {t : List (Int × Int)} {i : Expr} {di : Ex} {p pos : Pos} (ht : tabIB x t X.K = true) (hm : X.mg x = some (.ref (He.ga X.K x))) (hi : SE X true i di) (hg : Gl X x := by rfl) (hd : (x == ("__debug__" : Str)) = false := by decide) (hs : NoSl i := by intro _ _; rfl) : SE X τ (.Subscript (.Name x p) i pos) (op1 (tabI t) di) := by
  obtain ⟨es, n, lk, hes⟩ := tabIB_ok ht
  obtain ⟨s1, s2⟩ := ent_shape hes
  refine ⟨fun pins s σ H Q I h => ?_⟩
  obtain ⟨B, O, env, d, r, h1, q⟩ := h
  obtain ⟨y, hy, h2⟩ := bnd h1
  refine subD_of PySem.F.slot_dict_getitem.lookup hs (ld_glob I hg hm (thn (hi.run pins s σ H _ I ⟨B, O, env, y, r, hy, fun v H' s1 rv => (⟨s1, rv⟩ : Same H H' ∧ Rep X.mg (Lv B O true) H' v y)⟩) fun iv s2' ⟨v, H2, I2, ry, ss, rv⟩ => ?_) hd)
  obtain ⟨k, rfl⟩ : ∃ k, y = D.int k := by
    cases y <;> simp only [tabI, reduceCtorEq] at h2
    exact ⟨_, rfl⟩
  obtain ⟨b, hb, h3⟩ := Option.map_eq_some_iff.mp h2
  subst h3
  cases rv
  have hget : s2'.heap.get? (He.ga X.K x) = some ⟨.type "dict", none, .dict es n, #[]⟩ := I2.kIn _ _ lk
  refine ⟨⟨_, hget, rfl⟩, ?_⟩
  obtain ⟨e, u, h4, h5⟩ := s2 k b hb
  have hmap : s2'.heap.MapOf (mixKind X.prog X.w) (He.ga X.K x) (fun j => findBy (mixKind X.prog X.w).is es j) := by
    refine ⟨_, es, n, hget, ⟨rfl, rfl, rfl⟩, rfl, fun e he => ?_, fun _ => rfl⟩
    obtain ⟨k', u', e1, e2⟩ := s1 e (by simpa using he)
    refine ⟨.inl k', ?_, ?_⟩
    · rw [e1]; simp [mixKind, keyIs, Value.isInt]
    · rw [e2]; rfl
  obtain ⟨tk, rfl⟩ := ry
  refine wpAny_getItem_of (knd := mixKind X.prog X.w) (k := .inl k) (v := .int b u) (by simp [mixKind, keyIs, Value.isInt]) hmap ?_ ⟨.int b, H2, I2.tok _, ⟨u, rfl⟩, q _ H2 ss (.int b)⟩
  show findBy keyIs es (.inl k) = _
  unfold findBy
  rw [← Array.find?_toList, h4, ← h5]
  rfl
theorem flat_ints {K : PySem.W.Frag} : ∀ ns : List Int, ((ns.map He.Dv.int).map (He.Dv.v K)).all flatV = true
  | [] => rfl
  | _ :: r => by rw [List.map_cons, List.map_cons, List.all_cons, flat_ints r]; rfl
theorem inV_ints {K : PySem.W.Frag} (i : Int) : ∀ ns : List Int, inV (.int i) ((ns.map He.Dv.int).map (He.Dv.v K)) = ((ns.map D.int).any fun z => D.eqv z (.int i))
  | [] => rfl
  | n :: r => by
    have := inV_ints (K := K) i r
    unfold inV at this ⊢
    simp only [List.map_cons, List.any_cons, this]
    rfl
theorem cinC {n : Bool} {ns : List Int} {a : Ex} {K : PySem.W.Frag} {mg : Str → Option Value} {x : Str} (ht : tupIB x ns K = true) {σ : L2.St} {H : Hp} {Q : Bool → Hp → Prop} (h : tT K mg (inC n (ns.map D.int) a) σ H Q) :
    tOp (rIn K n) (tE K mg true a) (tC (.ref (He.ga K x))) σ H fun y H' => ∃ k, y = .bl k ∧ Q k H' := by
  obtain ⟨B, O, env, c, r, h1, q⟩ := h
  obtain ⟨y, hy, h2⟩ := bnd h1
  refine ⟨B, O, env, y, r, hy, fun v H1 s1 r1 => ?_⟩
  cases y <;> simp only [reduceCtorEq] at h2
  cases h2
  cases r1
  refine ⟨_, _, rfl, .inr (He.tupB_ok ht H1), rfl, flat_ints ns, _, rfl, ?_⟩
  rw [inV_ints]
  cases n
  · simpa using q H1 s1
  · simpa using q H1 s1
theorem st_ninC {x : Str} {ns : List Int} {a : Expr} {da : Ex} {p pos : Pos} (ht : tupIB x ns X.K = true) (hm : X.mg x = some (.ref (He.ga X.K x))) (ha : SE X true a da) (hg : Gl X x := by rfl) (hd : (x == ("__debug__" : Str)) = false := by decide) (hmk : behindInMarks .NotIn (.Name x p) = false := by rfl) : ST X (.Compare a [.NotIn] [.Name x p] pos) (inC true (ns.map D.int) da) :=
  (pt_cmpR op_notIn_seq ha (pe_glob (v := .ref (He.ga X.K x)) hg hm rfl hd) hmk).weak fun σ H Q h => cinC ht h
end
end PV

namespace PV
variable [LT] [RT]
open PySem PySem.Spec PyProof.Rows L2
def zipD : List D → Option (List D)
  | [.lst xs, .lst ys] => some ((xs.zip ys).map fun p => .tup [p.1, p.2])
  | [.tup xs, .tup ys] => some ((xs.zip ys).map fun p => .tup [p.1, p.2])
  | _ => none
def iZp (a : Ax) : Ax := fun e => (a e).bind zipD
end PV

namespace PV
variable [LT] [RT]
open PySem PySem.Spec PyProof.Rows L2
def lexLe : List Int → List Int → Bool
  | [], _ => true
  | _ :: _, [] => false
  | a :: x, b :: y => decide (a < b) || (decide (a = b) && lexLe x y)
end PV

namespace PV
variable [LT] [RT]
open PySem PySem.Spec PyProof.Rows L2
def seen (l : List Str) (x : Str) : List Str := if l.any (· == x) then l else l ++ [x]
def dst (l : List Str) : List Str := l.foldl seen []
def strsOf : List D → Option (List Str)
  | [] => some []
  | .str x :: r => (strsOf r).map (x :: ·)
  | _ :: _ => none
def lenSet : D → Option D
  | .lst xs => (strsOf xs).bind fun l => if l.length < 64 then some (.int (dst l).length) else none
  | _ => none
theorem dst_snoc (l : List Str) (x : Str) : dst (l ++ [x]) = seen (dst l) x := by
  unfold dst; rw [List.foldl_append]; rfl
theorem seen_len (l : List Str) (x : Str) : (seen l x).length = if l.any (· == x) then l.length else l.length + 1 := by
  unfold seen; split <;> simp
theorem seen_any (l : List Str) (x y : Str) : (seen l x).any (· == y) = (l.any (· == y) || decide (y = x)) := by
  unfold seen
  split
  · rename_i h
    by_cases e : y = x
    · subst e; rw [h]; rfl
    · simp [e]
  · rw [List.any_append]
    congr 1
    by_cases e : y = x
    · subst e; simp
    · have e' : ¬ x = y := fun z => e z.symm
      simp [e, e']
theorem dst_le : ∀ l : List Str, (dst l).length ≤ l.length := by
  intro l
  have : ∀ (l acc : List Str), (l.foldl seen acc).length ≤ acc.length + l.length := by
    intro l
    induction l with
    | nil => intro acc; exact Nat.le_refl _
    | cons x r ih =>
      intro acc
      have h1 := ih (seen acc x)
      rw [seen_len] at h1
      rw [List.foldl_cons, List.length_cons]
      split at h1 <;> omega
  have := this l []
  simpa [dst] using this
section
variable {P : Program} {w : World} {A : Around} {R : Result → Shared → Prop} {I : Addr} {fp wr : List Addr} {G : Array GenState → Array GenState → Prop} {n : Nat} {C : Nat → Value → Prop} {St : Nat → Shared → Prop}
theorem setLoop (W : WalksS P w A.in1 I fp wr G n C St) (a : Addr) (ha : a ∉ fp) (l : List Str) (hl : l.length = n) (hn : n < 64) (hv : ∀ i v, C i v → ∃ t, v = .str (l.getD i Str.empty) t) : ∀ (k i : Nat) (s : Shared), n - i = k → i ≤ n → St i s →
      s.heap.SetOf (PySem.strKind P w) a (fun y => (dst (l.take i)).any (· == y)) (dst (l.take i)).length →
      (∀ g, Moved (a :: wr) G s g → g.heap.SetOf (PySem.strKind P w) a (fun y => (dst l).any (· == y)) (dst l).length → R (.ok (.ret .none)) g) → codeAny (model P w) A (.builtin "set.update.loop" ⟨[.ref a, .ref I], []⟩) R s := by
  have aw : a ∉ wr := fun h => ha (W.sub _ h)
  have up : ∀ b ∈ wr, b ∈ a :: wr := fun b hb => List.mem_cons_of_mem _ hb
  intro k
  induction k with
  | zero =>
    intro i s hk hi st hS hR
    obtain rfl : i = n := by omega
    refine codeAny_builtin F.entry_set_update_loop ?_
    rw [Around.under_plainId F.plain_set_update_loop _]
    show wpAny _ A.in1 (pyNext (.ref I) >>= _) _ _ s
    refine wpAny_bind (W.done s _ _ st fun g hm => ?_)
    obtain ⟨o, es, ep, t, ho, rest⟩ := hS
    have z : l.take i = l := List.take_of_length_le (by omega)
    rw [z] at rest
    exact wpAny_pure (hR g (hm.mono up) ⟨o, es, ep, t, hm.heap a _ aw ho, rest⟩)
  | succ k ih =>
    intro i s hk hi st hS hR
    have lt : i < n := by omega
    refine codeAny_builtin F.entry_set_update_loop ?_
    rw [Around.under_plainId F.plain_set_update_loop _]
    show wpAny _ A.in1 (pyNext (.ref I) >>= _) _ _ s
    refine wpAny_bind (W.item i s _ _ lt st fun v g hC st' hm => ?_)
    obtain ⟨t, rfl⟩ := hv i v hC
    have hS' : g.heap.SetOf (PySem.strKind P w) a (fun y => (dst (l.take i)).any (· == y)) (dst (l.take i)).length := let ⟨o, es, ep, tb, ho, rest⟩ := hS; ⟨o, es, ep, tb, hm.heap a _ aw ho, rest⟩
    show wpAny _ A.in1 (holding [Value.str (l.getD i Str.empty) t] (setAdd a (.str (l.getD i Str.empty) t)) >>= _) _ _ g
    refine wpAny_bind (wpAny_holding ?_)
    unfold setAdd
    refine wpAny_holding (wpAny_bind ((PySem.strKind P w).pyHash (k := l.getD i Str.empty) (strKind_is _ _ _ _) ?_))
    have room : (dst (l.take i)).length + 1 < scanBound := by
      have := dst_le (l.take i)
      rw [List.length_take] at this
      unfold scanBound
      omega
    have tk : l.take (i + 1) = l.take i ++ [l.getD i Str.empty] := by
      rw [List.take_add_one, List.getElem?_eq_getElem (by omega)]
      simp [List.getD, List.getElem?_eq_getElem (show i < l.length by omega)]
    refine wpAny_setAddHashed_of (knd := PySem.strKind P w) (s := { g with toks := g.toks + 1 }) (strKind_is _ _ _ _) rfl hS' room fun h2 sb S2 => ?_
    have S3 : h2.SetOf (PySem.strKind P w) a (fun y => (dst (l.take (i + 1))).any (· == y)) (dst (l.take (i + 1))).length := SetOf_congr S2 (fun y => by rw [tk, dst_snoc, seen_any]) (by rw [tk, dst_snoc, seen_len])
    refine wpAny_pure ⟨plainId_quiet F.plain_set_update_loop _, ih (i + 1) _ (by omega) lt (W.frame _ g _ _ st' (Nat.le_succ _) fun b hb o e => (sb.2 b fun z : b = a => ha (z ▸ hb)).trans e) S3 fun g2 m2 h3 => ?_⟩
    exact hR g2 (Moved.trans W.gtrans ((hm.mono up).then_heap (Nat.le_succ _) fun b o hb e => (sb.2 b fun z : b = a => hb (z ▸ List.mem_cons_self)).trans e) m2) h3
end
section
variable {P : Program} {w : World} {A : Around} {E : Value → Shared → Prop} {s : Shared}
theorem setOfTexts {l : Addr} {its : Array Value} {xs : List Str} {Q : Value → Shared → Prop} (hh : A.handled = none) (hl : s.heap.IsList l its) (hi : StrsAre its.toList xs) (hn : xs.length < 64)
    (h : ∀ (g : Heap) (tk : Nat), g.SetOf (PySem.strKind P w) s.heap.objs.size (fun y => (dst xs).any (· == y)) (dst xs).length → (∀ b o, b < s.heap.objs.size → s.heap.get? b = some o → g.get? b = some o) → Q (.ref s.heap.objs.size) { s with heap := g, toks := tk }) :
    wpAny (model P w) A (call (.type "set") [.ref l]) Q E s := by
  have made := PySem.F.called_set.made
  have sub := PySem.F.called_set.sub
  have nt := PySem.F.called_set.notType
  have cc := PySem.F.called_set.canCreate
  have tc := PySem.F.typeCall_set_1 (.ref l)
  obtain ⟨c, tl, mro⟩ := PySem.F.called_set.mro
  refine wpAny_call (codeAny_of_tree ?_)
  show wpAny _ _ (callAny (.type "set") _) _ _ _
  refine wpAny_pure ⟨Code.quiet_builtin _ (by decide +kernel), codeAny_builtin PySem.F.entry_type_call ?_⟩
  rw [Around.under_plain (weight_type_call_type "set" [.ref l] []) rfl]
  repeat (any_goals (first | assumption | wp_step))
  refine codeAny_mono (code_set_new_1 (.ref l) (E := E) (Q₁ := fun ob t => ∃ led : Bool, ob = .ref s.heap.objs.size ∧ t = { s with heap := s.heap.push { cls := .type "set", dict := none, data := .set #[] 0 (.fresh 0 0 led) } }) fun led => ⟨led, rfl, rfl⟩) fun r t hr => ?_
  cases r with
  | error e => exact hr
  | ok f =>
    cases f with
    | ret ob =>
      obtain ⟨led, rfl, rfl⟩ := hr
      generalize hS0 : ({ cls := .type "set", dict := none, data := .set #[] 0 (.fresh 0 0 led) } : Obj) = S0
      have at0 : (s.heap.push S0).get? s.heap.objs.size = some S0 := Heap.get?_push_size _ (by rw [← hS0]; rfl)
      have ty0 : Shared.TypeIs { s with heap := s.heap.push S0 } (.ref s.heap.objs.size) "set" := ⟨_, at0, by rw [← hS0]⟩
      have ini := PySem.F.called_set.init.lookup
      have bnd := PySem.F.called_set.init.bind (.ref s.heap.objs.size)
      repeat (any_goals (first | assumption | wp_step))
      refine codeAny_mono (codeAny_call_builtin (R := wants (fun r t => r = .none ∧ ∃ (g : Heap) (tk : Nat), t = { s with heap := g, toks := tk } ∧ g.SetOf (PySem.strKind P w) s.heap.objs.size (fun y => (dst xs).any (· == y)) (dst xs).length ∧ (∀ b o, b < s.heap.objs.size → s.heap.get? b = some o → g.get? b = some o)) E) PySem.F.called_set.init.plain PySem.F.entry_set_init (check_set_init_1 ty0 ?_)) fun r2 t2 hr2 => ?_
      · obtain ⟨ol, hol, hcl, nl, hdl⟩ := hl
        obtain ⟨oc, od, ot, os⟩ := ol
        dsimp only at hcl hdl
        subst hcl
        subst hdl
        have ol1 := Heap.get?_push_of_some S0 hol
        have sl := PySem.F.sub_list_set
        have sf := PySem.F.sub_list_frozenset
        have ne : (Value.type "list" == Value.type "dict") = false := by decide
        have l1 : (s.heap.push S0).IsList l its := ⟨_, ol1, rfl, nl, rfl⟩
        subst hS0
        unfold Builtin.«set.__init__» noKeywords Builtin.Frozenset.updateFrom
        generalize hp : pyIter = pI
        wp_walk
        subst hp
        refine wpAny_pyIter_list l1 ?_
        refine wpAny_bind (wpAny_runValue ?_)
        have lS : l < s.heap.objs.size := Heap.lt_size hol
        have h3 : A.in1.in1.in1.handled = none := by simp [hh]
        have n1 : l ≠ (s.heap.push ({ cls := .type "set", dict := none, data := .set #[] 0 (.fresh 0 0 led) } : Obj)).objs.size := fun z => absurd (z ▸ lS) (by rw [Heap.size_push]; exact fun q => Nat.lt_irrefl _ (Nat.lt_of_succ_lt q))
        have n2 : s.heap.objs.size ∉ [(s.heap.push ({ cls := .type "set", dict := none, data := .set #[] 0 (.fresh 0 0 led) } : Obj)).objs.size, l] := by
          rw [Heap.size_push]
          refine fun z => (List.mem_cons.mp z).elim (fun q => Nat.ne_of_lt (Nat.lt_succ_self _) q) fun z => Nat.ne_of_gt lS (List.mem_singleton.mp z)
        have len : xs.length = its.size := by rw [← StrsAre.len_eq hi, Array.length_toList]
        refine setLoop ((Walks.list h3 _ l n1 its).toS) s.heap.objs.size n2 xs len (len ▸ hn) (fun i v hv => _root_.SS.strs_at hi i v (by rw [Array.getElem?_toList]; exact hv)) (its.size - 0) 0 _ (by omega) (Nat.zero_le _) ⟨⟨_, Heap.get?_push_size _ rfl, rfl, rfl⟩, l1.push _⟩ ?_ ?_
        · have at1 := Heap.get?_push_of_some ({ cls := .type "list_iterator", data := .fields #[.ref l, .int 0 0] } : Obj) at0
          exact SetOf_congr ((setObjOf_fresh (knd := PySem.strKind P w) led).setOf at1 (by unfold scanBound; omega)) (fun _ => rfl) rfl
        · intro t hm hS
          obtain ⟨g, g', d', tk, os'⟩ := t
          have e1 : g' = s.gens := hm.gens
          have e2 : d' = s.drawn := hm.drawn
          have e3 : os' = s.os := hm.os
          subst e1 e2 e3
          show wpAny _ _ _ _ _ _
          refine wpAny_pure ?_
          show wpAny _ _ (ret Value.none) _ _ _
          refine wpAny_pure ⟨rfl, g, tk, rfl, hS, fun b o hb e => hm.heap b o ?_ (Heap.get?_push_of_some _ (Heap.get?_push_of_some _ e))⟩
          rw [Heap.size_push]
          refine fun z => (List.mem_cons.mp z).elim (fun q => Nat.ne_of_lt hb q) fun z => Nat.ne_of_lt (Nat.lt_succ_of_lt hb) (List.mem_singleton.mp z)
      · cases r2 with
        | error e => exact hr2
        | ok f2 =>
          cases f2 with
          | ret r =>
            obtain ⟨rfl, g, tk, rfl, hS, hk⟩ := hr2
            repeat (any_goals (first | assumption | wp_step))
            exact h _ _ hS hk
          | _ => exact hr2.elim
    | _ => exact hr.elim
end
section
variable {X : Cx} {τ : Bool}
theorem strs_rep {mg : Str → Option Value} {A : Addr → Prop} {H : Hp} : ∀ {vs : List V} {ds : List D} {l : List Str}, Reps mg A H vs ds → strsOf ds = some l → vs = l.map V.str
  | _, _, _, .nil, e => by cases e; rfl
  | _, _, _, .cons h t, e => by
    cases h <;> simp only [strsOf, reduceCtorEq] at e
    obtain ⟨r, h1, h2⟩ := Option.map_eq_some_iff.mp e
    subst h2
    rw [List.map_cons, ← strs_rep t h1]
theorem se_lenSet {a : Expr} {da : Ex} {p p2 q pos : Pos} (hc : X.calm = true) (hm : X.mg "len" = none) (hm2 : X.mg "set" = none) (ha : SE X true a da) (hg : Gl X "len" := by rfl) (hg2 : Gl X "set" := by rfl) (na : starEach [a] X.env = (false, eval a X.env) :: starEach [] X.env := by rfl)
    (n2 : starEach [.Call (.Name "set" p2) [a] [] q] X.env = (false, eval (.Call (.Name "set" p2) [a] [] q) X.env) :: starEach [] X.env := by rfl) : SE X τ (.Call (.Name "len" p) [.Call (.Name "set" p2) [a] [] q] [] pos) (op1 lenSet da) := by
  refine ⟨fun pins s σ H Q I ⟨B, O, env, d, r, h1, qq⟩ => ?_⟩
  obtain ⟨y, hy, h2⟩ := bnd h1
  refine Call_ (ld_blt I hg hm boot_len (callWith_builtin1 (args_cons (Call_ (ld_blt I hg2 hm2 boot_set ?_)) n2) n2 rfl))
  refine callWith_type1 (args_cons (thn (ha.run pins s σ H _ I ⟨B, O, env, y, r, hy, fun v H' s1 rv => (⟨s1, rv⟩ : Same H H' ∧ Rep X.mg (Lv B O true) H' v y)⟩) fun v s1 ⟨x, H1, I1, r1, ss, rv⟩ => args_nil ?_) na) na rfl
  cases y <;> simp only [lenSet, reduceCtorEq] at h2
  obtain ⟨ad, xs, rfl, _, hH, t⟩ := rv.lst_inv
  obtain ⟨l, hl, h3⟩ := bnd h2
  split at h3
  · rename_i h64
    cases h3
    cases r1
    have e := strs_rep t hl
    subst e
    obtain ⟨its, rr, pl, hz⟩ := I1.list (show SqL X.K H1 ad (l.map V.str) from .inl (.inl hH))
    refine setOfTexts (I1.ok.hd hc) pl.isList (by simpa using strsAre_of rr) h64 fun g tk hS hk => args_nil ?_
    obtain ⟨o, es, ep, tt, ho, hex, hd, _, _, _, hf, hn⟩ := hS
    have I2 : Inv X pins σ H1 { s1 with heap := g, toks := tk } := I1.kept fun b o e => hk b o (Heap.lt_size e) e
    refine call_len_set ho hex hd hf ?_ ⟨.int (dst l).length, H1, I2.tok _, ⟨_, by rw [hn]⟩, qq _ H1 ss (.int _)⟩
    rw [hn]
    have := dst_le l
    omega
  · cases h3
end
end PV

namespace PV
variable [LT] [RT]
open PySem PySem.Spec PyProof.Rows L2
def lc2Run (g g1 : Gx) (di1 : Ax) (te : Ex) (ws1 : List Nat) (e0 : DEnv) : List D → Option (List D)
  | [] => some []
  | x :: xs => (g x e0).bind fun e1 => (di1 e1).bind fun ys => if noOwn e1 ws1 = true then (lcRun g1 yes te (wip e1 ws1) ys).bind fun zs => (lc2Run g g1 di1 te ws1 e0 xs).bind fun r => some (zs ++ r) else none
def lc2E (it : Ax) (g : Tg) (it1 : Ax) (g1 : Tg) (a : Ex) (ws ws1 : List Nat) : Ex := fun e => (it e).bind fun xs => if noOwn e ws = true then (lc2Run (gD g) (gD g1) it1 a ws1 (wip e ws) xs).bind fun ys => if ys.length ≤ szL then some (.lst ys) else none else none
theorem Keep.trans {A : Addr → Prop} {H H' H'' : Hp} (a : Keep A H H') (b : Keep A H' H'') : Keep A H H'' :=
  ⟨fun x u hx _ h => b.rd x u hx (a.rd x u hx h), fun x C d f hx h => b.ins x C d f hx (a.ins x C d f hx h), fun x l hx h => b.lst x l hx (a.lst x l hx h), fun x l h => b.tup x l (a.tup x l h), fun x o l h => b.fz x o l (a.fz x o l h)⟩
theorem Keep.sub {A A' : Addr → Prop} {H H' : Hp} (a : Keep A' H H') (f : ∀ x, A x → A' x) : Keep A H H' :=
  ⟨fun x u hx _ h => a.rd x u (f x hx) h, fun x C d g hx h => a.ins x C d g (f x hx) h, fun x l hx h => a.lst x l (f x hx) h, a.tup, a.fz⟩
end PV

namespace PV
variable [LT] [RT]
open PySem PySem.Spec PyProof.Rows L2
def spCp (mg : Str → Option Value) (c f g : Str) : Sp := fun vs H Q _ => ∃ (x dx C p : Addr) (u : V) (ws : List V), vs = [.ref x, u, .ref p] ∧ H x = some (.ins C dx []) ∧ mg c = some (.ref C) ∧ p ≠ x ∧ H p = some (.lst ws) ∧
  ∀ q, q ≠ x → H q = none → Q .non (upd (upd (upd H x (.ins C dx [(f, u)])) q (.lst ws)) x (.ins C dx [(f, u), (g, .ref q)]))
structure CopyOk (P : Program) (w : World) (K : PySem.W.Frag) (mg : Str → Option Value) (base : Heap) (k : Nat) (c f g : Str) : Prop where
  ex : ∃ C fa fd ps, FnOk P w K mg base CX0 k fa fd ps (spCp mg c f g) ∧ mg c = some (.ref C) ∧ Mk K C fa ∧ Binds K fd ps []
end PV

namespace PV
variable [LT] [RT]
open PySem PySem.Spec PyProof.Rows L2
def dic1 (k v : Ex) : Ex := fun e => (k e).bind fun x => (v e).bind fun y => if keyD true x then some (.dic true [x] [y]) else none
def isBool : D → Option D
  | .bl _ => some (.bl true)
  | _ => none
section
variable {X : Cx} {τ : Bool}
theorem st_isBool {e : Expr} {de : Ex} {p p2 pos : Pos} (hm : X.mg "isinstance" = none) (hm2 : X.mg "bool" = none) (h : SE X true e de) (hg : Gl X "isinstance" := by rfl) (hg2 : Gl X "bool" := by rfl) (n1 : starEach [e, .Name "bool" p2] X.env = (false, eval e X.env) :: starEach [.Name "bool" p2] X.env := by rfl) (n2 : starEach [.Name "bool" p2] X.env = (false, eval (.Name "bool" p2) X.env) :: starEach [] X.env := by rfl) (hpl : (backTo pos (starEach [.Name "bool" p2] X.env)).any (·.1) = false := by rfl) : SE X τ (.Call (.Name "isinstance" p) [e, .Name "bool" p2] [] pos) (op1 isBool de) :=
  (pe_callB call_isi hg hm boot_isinstance (pa_cons h (pa_cons (pe_bltn (v := .ty "bool") hg2 hm2 boot_bool rfl) pa_nil n2) n1) (by decide) (by decide) n1 hpl).weak fun σ H Q ⟨B, O, env, d, r, h1, q⟩ => by
  obtain ⟨x, hx, h2⟩ := bnd h1
  refine ⟨B, O, env, x, r, hx, fun v H1 s1 r1 => ?_⟩
  cases x <;> simp only [isBool, reduceCtorEq] at h2
  cases h2
  cases r1
  exact ⟨_, _, _, .type "bool", true, rfl, .ty "bool", .base (.bl _), rfl, q _ H1 s1 (.bl _)⟩
end
end PV

namespace PV
variable [LT] [RT]
open PySem PySem.Spec PyProof.Rows L2
def rN (mg : Str → Option Value) (f : Fn) : List V → Hp → VK → Prop := fun vs H Q => ∃ A ds d, Fr A H ∧ Reps mg A H vs ds ∧ f ds = some d ∧ ∀ p H', Same H H' → H p = none → Own mg (fun a => A a ∧ a ≠ p) H' p d → Q (.ref p) H'
def spN (mg : Str → Option Value) (f : Fn) : Sp := fun vs H Q _ => rN mg f vs H Q
section
variable {P : Program} {w : World} {K : PySem.W.Frag} {mg : Str → Option Value} {base : Heap}
structure MethN (P : Program) (w : World) (K : PySem.W.Frag) (mg : Str → Option Value) (base : Heap) (k : Nat) (c m : Str) (F : Fn) : Prop where
  ex : ∃ C f fd ps, FnOk P w K mg base CX0 k f fd ps (spN mg F) ∧ mg c = some (.ref C) ∧ Cls K C ∧ Meth K C m f ∧ Binds K fd ps []
end
end PV

namespace PV
variable [LT] [RT]
open PySem PySem.Spec PyProof.Rows L2
def iSt (a : Ex) : Ax := fun e => (a e).bind fun d => match d with
  | .str x => some (x.cps.toList.map fun c => .str ⟨#[c]⟩)
  | _ => none
theorem si_str {X : Cx} {tg e : Expr} {de : Ex} (h : SE X false e de) : SI X tg e (iSt de) := (pi_str h).weak fun σ H R ⟨B, O, env, ds, r, h1, q⟩ => by
  obtain ⟨d, hd, h2⟩ := bnd h1
  refine ⟨B, O, env, d, r, hd, fun v H1 s1 r1 => ?_⟩
  split at h2
  · rename_i x
    cases h2
    cases r1
    refine ⟨x, rfl, q _ H1 s1 fun i H k => ⟨fun y e => ?_, fun e => ?_⟩⟩
    · rw [List.getElem?_map] at e
      obtain ⟨c, hc, e⟩ := Option.map_eq_some_iff.mp e
      subst e
      have hc' : x.cps[i]? = some c := by rw [← Array.getElem?_toList]; exact hc
      refine ⟨(Array.getElem?_eq_some_iff.mp hc').1, fun v' H' ⟨e1, c', e2, e3⟩ => ?_⟩
      subst e1 e3
      rw [hc'] at e2
      cases e2
      exact ⟨Same.refl _, .str _⟩
    · have := List.getElem?_eq_none_iff.mp e
      show x.cps.size ≤ i
      simpa using this
  · cases h2
theorem hu65 {k : Nat} {A : Around} (hr : Room k A) : A.units + 65 < cLine := by have := hr.un; omega
def noLst (K : PySem.W.Frag) : Bool := K.all fun q => match q.2.cls with
  | .type c => c != "list"
  | _ => true
theorem list_lookup_mem {a : Addr} {o : Obj} : ∀ {l : List (Addr × Obj)}, l.lookup a = some o → (a, o) ∈ l
  | [], h => by cases h
  | (b, u) :: r, h => by
    simp only [List.lookup] at h
    split at h
    · rename_i e
      cases h
      rw [beq_iff_eq.mp e]
      exact List.mem_cons_self
    · exact List.mem_cons_of_mem _ (list_lookup_mem h)
theorem noLst_rd {K : PySem.W.Frag} (h : noLst K = true) {H : Hp} {a : Addr} {xs : List V} (q : SqL K H a xs) : Rd H a (.lst xs) := by
  rcases q with q | ⟨o, its, n, lk, hc, _⟩
  · exact q
  · have m := list_lookup_mem lk
    have := List.all_eq_true.mp h _ m
    rw [hc] at this
    cases this
def obsE (fa : List He.Fa) (fn : List He.DefD) (ex : List (PySem.W.Frag → Bool)) (K : PySem.W.Frag) : He.AlD := ((He.obsD fa fn K).1 && (ex.all fun f => f K), (He.obsD fa fn K).2)
def obsEG (n : Nat) (fa : List He.Fa) (fn : List He.DefD) (ex : List (PySem.W.Frag → Bool)) (g : Addr → Option Obj) : He.AlD := obsE fa fn ex (He.frG g (He.asD g n))
def hookE (n : Nat) (fa : List He.Fa) (fn : List He.DefD) (ex : List (PySem.W.Frag → Bool)) : PySem.W.Hook where
  α := He.AlD
  obs := fun s => obsEG n fa fn ex s.heap.get?
  val := fun _ => He.valD fn
  says := fun _ h => ∃ K : PySem.W.Frag, K.In h ∧ obsE fa fn ex K = He.valD fn
  of := fun _ _ e => ⟨_, He.frG_in, e⟩
  keeps := fun _ _ _ ⟨K, hK, c⟩ k => ⟨K, PySem.W.Frag.In.keeps hK k, c⟩
theorem obsEG_eq {n : Nat} {fa : List He.Fa} {fn : List He.DefD} {ex : List (PySem.W.Frag → Bool)} {g : Addr → Option Obj} {s : Shared} (h : ∀ a, g a = s.heap.get? a) : obsEG n fa fn ex g = (hookE n fa fn ex).obs s := by
  have e : g = s.heap.get? := funext h
  rw [e] <;> rfl
theorem zf_of {fa : List He.Fa} {fn : List He.DefD} {ex : List (PySem.W.Frag → Bool)} {K : PySem.W.Frag} {mg : Str → Option Value} {h : Heap} (e : obsE fa fn ex K = He.valD fn) (hK : K.In h) (G : h.Ns mainGlobals mg) : ZF fa fn ex K mg := by
  have e1 : ((He.obsD fa fn K).1 && (ex.all fun f => f K)) = true := congrArg (fun z : He.AlD => z.1) e
  have e2 : (He.obsD fa fn K).2 = fn.map He.DefD.val := congrArg (fun z : He.AlD => z.2) e
  rw [Bool.and_eq_true] at e1
  exact ⟨Prod.ext e1.1 e2, e1.2, h, hK, G⟩
theorem law_says {mg : Str → Option Value} {F : Fn} {K : PySem.W.Frag} (hn : noLst K = true) {H : Hp} {a : Addr} {ns : List Int} (hF : F [.scr ns] = some (.bl true)) (hS : SqL K H a (ns.map V.int)) (ht : LamX.Tabs LT.T H := by intro p hp; cases hp) {E : XK} : spD mg F [.ref a] H (fun v _ => v = .bl true) E := by
  refine ⟨fun _ => True, [.scr ns], .bl true, ⟨fun _ _ => trivial, ht⟩, .cons (.scr trivial (noLst_rd hn hS)) .nil, hF, fun v H' _ r => ?_⟩
  cases r
  rfl
end PV

namespace PV
variable [LT] [RT]
open PySem PySem.Spec PyProof.Rows L2
def revT : D → Option D
  | .tup xs => some (.tup xs.reverse)
  | .ftup xs => some (.tup xs.reverse)
  | _ => none
end PV

namespace PV
variable [LT] [RT]
open PySem PySem.Spec PyProof.Rows L2
section
variable {X : Cx}
def max2 : Fn := fun ds => match ds with
  | [.int a, .int b] => some (.int (if b > a then b else a))
  | _ => none
end
end PV

namespace PV
variable [LT] [RT]
open PySem PySem.Spec PyProof.Rows L2
def enumD : List D → Option (List D)
  | [.lst xs] => some (xs.zipIdx.map fun p => .tup [.int (p.2 : Int), p.1])
  | [.tup xs] => some (xs.zipIdx.map fun p => .tup [.int (p.2 : Int), p.1])
  | [.ftup xs] => some (xs.zipIdx.map fun p => .tup [.int (p.2 : Int), p.1])
  | _ => none
def iEnum (a : Ax) : Ax := fun e => (a e).bind enumD
end PV

namespace PV
variable [LT] [RT]
open PySem PySem.Spec PyProof.Rows L2
def dcRun (t : Bool) (g : Gx) (kx vx : Ex) (e0 : DEnv) : List D → List D → List D → Option (List D × List D)
  | [], ks, vs => some (ks, vs)
  | x :: xs, ks, vs => (g x e0).bind fun e1 => (kx e1).bind fun k => (vx e1).bind fun v => if keyD t k = true ∧ ks.length = vs.length then dcRun t g kx vx e0 xs (dput ks vs k v).1 (dput ks vs k v).2 else none
def dcE (t : Bool) (it : Ax) (g : Tg) (kx vx : Ex) (ws : List Nat) : Ex := fun e => (it e).bind fun xs => if xs.length ≤ szL ∧ noOwn e ws = true then (dcRun t (gD g) kx vx (wip e ws) xs [] []).bind fun r => some (.dic t r.1 r.2) else none
end PV

namespace PV
variable [LT] [RT]
open PySem PySem.Spec PyProof.Rows L2
end PV

namespace PV
variable [LT] [RT]
open PySem PySem.Spec PyProof.Rows L2
def WalksS (mg : Str → Option Value) (A : Addr → Prop) (J : It) (ds : List D) (H1 : Hp) : Prop := ∀ (i : Nat) H, Same H1 H → (∀ x, ds[i]? = some x → J.go i H ∧ ∀ v H', J.yld i H v H' → Same H H' ∧ Rep mg A H' v x) ∧ (ds[i]? = none → J.stop i H)
end PV

namespace PV
variable [LT] [RT]
open PySem PySem.Spec PyProof.Rows L2
def itemsD : D → Option (List D)
  | .dic true ks vs => some ((ks.zip vs).map fun p => .tup [p.1, p.2])
  | _ => none
def iItm (a : Ex) : Ax := fun e => (a e).bind itemsD
theorem _root_.L2.PE.or {X : Cx} {e : Expr} {t t' : TE} (h : PE X e t) (h' : PE X e t') : PE X e (fun σ H Q => t σ H Q ∨ t' σ H Q) := ⟨fun pins s σ H Q I q => q.elim (h.run pins s σ H Q I) (h'.run pins s σ H Q I)⟩
end PV

namespace PV
variable [LT] [RT]
open PySem PySem.Spec PyProof.Rows L2
section
variable {prog : Program} {w : World} {A : Around} {E : Value → Shared → Prop} {s : Shared}
def KeyOk (h : Heap) (k : Value → PyData) (vs : List Value) : Prop := ∀ v ∈ vs, ∃ as n r, Reads h v (k v) as ∧ k v = .tuple (.int n :: r)
theorem KeyOk.keep {h h' : Heap} {k : Value → PyData} {vs : List Value} (x : KeyOk h k vs) (kp : ∀ v ∈ vs, ∀ as, Reads h v (k v) as → ∃ bs, Reads h' v (k v) bs) : KeyOk h' k vs := fun v hv =>
  let ⟨as, n, r, q, e⟩ := x v hv
  let ⟨bs, q'⟩ := kp v hv as q
  ⟨bs, n, r, q', e⟩
end
end PV

namespace PV
variable [LT] [RT]
open PySem PySem.Spec PyProof.Rows L2
end PV

namespace PV
variable [LT] [RT]
open PySem PySem.Spec PyProof.Rows L2
def seqK : D → Option (List D)
  | .lst xs => some xs
  | .tup xs => some xs
  | .ftup xs => some xs
  | _ => none
def iSq (a : Ex) : Ax := fun e => (a e).bind seqK
theorem _root_.L2.PI.or {X : Cx} {tg e : Expr} {t t' : TI} (h : PI X tg e t) (h' : PI X tg e t') : PI X tg e (fun σ H R => t σ H R ∨ t' σ H R) := ⟨fun pins s σ H R I q => q.elim (h.run pins s σ H R I) (h'.run pins s σ H R I)⟩
end PV

namespace PV
variable [LT] [RT]
open PySem PySem.Spec PyProof.Rows L2
end PV

namespace PV
variable [LT] [RT]
open PySem PySem.Spec PyProof.Rows L2
def ftupD : D → Option D
  | .lst xs => some (.ftup xs)
  | _ => none
def ftupE (a : Ax) : Ex := fun e => (a e).bind fun xs => if xs.length ≤ szL then some (.ftup xs) else none
section
variable {X : Cx} {τ : Bool}
theorem Paired.get {α β : Type} {F : α → β → Prop} : ∀ {l : List α} {m : List β} {i : Nat} {b : β}, Paired F l m → m[i]? = some b → ∃ a, l[i]? = some a ∧ F a b
  | _, _, _, _, .nil, e => by simp at e
  | _, _, 0, _, .cons h _, e => by simp at e; subst e; exact ⟨_, rfl, h⟩
  | _, _, i + 1, _, .cons _ t, e => by
    obtain ⟨a, h1, h2⟩ := Paired.get (i := i) t (by simpa using e)
    exact ⟨a, by simpa using h1, h2⟩
end
end PV

namespace PV
variable [LT] [RT]
open PySem PySem.Spec PyProof.Rows L2
def zipM : List D → Option (List D)
  | [.tup xs, .lst ys] => some ((xs.zip ys).map fun p => .tup [p.1, p.2])
  | _ => none
def iZm (a : Ax) : Ax := fun e => (a e).bind zipM
structure ZmSep (z TI TO i1 i2 a b : Addr) : Prop where
  all : TI ≠ z ∧ TO ≠ z ∧ TI ≠ TO ∧ TI ≠ i1 ∧ TI ≠ i2 ∧ i1 ≠ z ∧ i2 ≠ z ∧ i1 ≠ TO ∧ i2 ≠ TO ∧ i1 ≠ i2 ∧ a ≠ z ∧ a ≠ TO ∧ a ≠ i1 ∧ a ≠ i2 ∧ b ≠ z ∧ b ≠ TO ∧ b ≠ i1 ∧ b ≠ i2
end PV

namespace PV
variable [LT] [RT]
open PySem PySem.Spec PyProof.Rows L2
def addI : D → D → Option D
  | .int a, .int b => some (.int (a + b))
  | _, _ => none
def subI : D → D → Option D
  | .int a, .int b => some (.int (a - b))
  | _, _ => none
end PV

namespace PV
variable [LT] [RT]
open PySem PySem.Spec PyProof.Rows L2
def isLst : D → Option D
  | .lst _ => some (.bl true)
  | _ => none
end PV

namespace PV
variable [LT] [RT]
open PySem PySem.Spec PyProof.Rows L2
def isC (c : Str) : D → Option D
  | .ins c' _ _ => if c' = c then some (.bl true) else none
  | _ => none
section
variable {fa : List He.Fa} {fn : List He.DefD} {ex : List (PySem.W.Frag → Bool)} {K : PySem.W.Frag} {mg : Str → Option Value} (Z : ZF fa fn ex K mg)
include Z
end
end PV

namespace PV
variable [LT] [RT]
open PySem PySem.Spec PyProof.Rows L2
end PV

namespace PV
variable [LT] [RT]
open PySem PySem.Spec PyProof.Rows L2
end PV

namespace PV
variable [LT] [RT]
open PySem PySem.Spec PyProof.Rows L2
end PV

namespace PV
variable [LT] [RT]
open PySem PySem.Spec PyProof.Rows L2
structure LamP (sc scope : Scope) (ps : List Str) : Prop where
  kind : scope.kind = .function
  co : scope.isCoroutine = false
  gen : scope.isGenerator = false
  own : ∀ y ∈ scope.names, y.2 ≠ .cell
  loc : ∀ y ∈ scope.names, y.2 = .local → y.1 ∈ ps
  par : ∀ x ∈ ps, scope.names.lookup x = some .local
  free : ∀ y ∈ scope.names, y.2 = .free → sc.names.lookup y.1 = some .cell ∨ sc.names.lookup y.1 = some .free
end PV

namespace PV
variable [LT] [RT]
open PySem PySem.Spec PyProof.Rows L2
end PV

namespace PV
variable [LT] [RT]
open PySem PySem.Spec PyProof.Rows L2
def valS : DSlot → DSlot
  | .val d => .val d
  | _ => .no
def vals (e : DEnv) : DEnv := e.map valS
section
variable {X : Cx} {pins : List (Addr × Obj)} {σ : L2.St} {H : Hp} {s : Shared} {B : Bs} {O : Nat → Option Addr} {env : DEnv}
theorem nodup_get {α : Type} : ∀ {l : List α} {i j : Nat} {x : α}, l.Nodup → l[i]? = some x → l[j]? = some x → i = j := fun {l i j x} nd h1 h2 => by
  obtain ⟨a1, b1⟩ := List.getElem?_eq_some_iff.mp h1
  obtain ⟨a2, b2⟩ := List.getElem?_eq_some_iff.mp h2
  rcases Nat.lt_trichotomy i j with h | h | h
  · exact absurd (b1.trans b2.symm) (List.pairwise_iff_getElem.mp nd i j a1 a2 h)
  · exact h
  · exact absurd (b2.trans b1.symm) (List.pairwise_iff_getElem.mp nd j i a2 a1 h)
end
end PV

namespace PV
variable [LT] [RT]
open PySem PySem.Spec PyProof.Rows L2

section
variable {X : Cx} {pins : List (Addr × Obj)} {σ : L2.St} {H : Hp} {s : Shared}
structure MaxJ (X : Cx) (pins : List (Addr × Obj)) (σ : L2.St) (H : Hp) (f : Addr) (fo : Obj) (S I0 : Addr) (H' : Hp) (s : Shared) : Prop where
  inv : Inv X pins σ H' s
  sm : Same H H'
  nS : H' S = none
  nI : H' I0 = none
  nf : H' f = none
  gf : s.heap.get? f = some fo
theorem MaxJ.call {f S I0 : Addr} {fo oS oI : Obj} {H' : Hp} {s0 s s' : Shared} {H0 : Hp} {Q : VK} {u : Value} (I : Inv X pins σ H0 s0) (hS : s0.heap.objs.size ≤ S) (hI : s0.heap.objs.size ≤ I0) (fs : f ∉ frs X.stack) (j : MaxJ X pins σ H f fo S I0 H' s) (gS : s.heap.get? S = some oS) (gI : s.heap.get? I0 = some oI)
    (c : CE X.stack X.prog X.w H' s (fun w H2 => Same H' H2 ∧ Q w H2) u s') : ∃ w H2, MaxJ X pins σ H f fo S I0 H2 s' ∧ Same H' H2 ∧ RelV w u ∧ Q w H2 ∧ s'.heap.get? S = some oS ∧ s'.heap.get? I0 = some oI := by
  have nf : ∀ f, s0.heap.objs.size ≤ f → f ∉ frs X.stack := fun f hf z => (List.mem_cons.mp (I.stkSub _ z)).elim (fun e => absurd I.lt (by rw [← e]; exact Nat.not_lt.mpr hf)) fun e => I.nofs hf e
  obtain ⟨w, H2, os, bare, un, hok, r, sm, q⟩ := c
  exact ⟨w, H2, ⟨j.inv.call' os un hok bare fun b hb => (nomatch hb), j.sm.trans sm, un.free _ _ gS j.nS (by simp), un.free _ _ gI j.nI (by simp), un.free _ _ j.gf j.nf (by simp), un.keep _ _ j.gf j.nf fs (by simp)⟩, sm, r, q, un.keep _ _ gS j.nS (nf _ hS) (by simp), un.keep _ _ gI j.nI (nf _ hI) (by simp)⟩
end
end PV

namespace PV
open PySem PySem.Spec PyProof.Rows L2
def pth (x : Str) : Str × Option Str := if x == ("Code.nearest" : Str) then ("Code", some "nearest") else (x, none)
def mkB (K : PySem.W.Frag) (c : Addr) (x : Str) : Bool := match K.lookup (He.fAd K (pth x)) with
  | some ⟨_, _, .func fd, _⟩ => (match fd.code with
    | .ref c' => c' == c
    | _ => false)
  | _ => true
def lamQ (x : Str) : Str := x ++ ".<locals>." ++ "<lambda>"
class LB [LT] (K : PySem.W.Frag) (mg : Str → Option Value) (base : Heap) (ls : List Str) : Prop where
  ok : ∀ x ∈ ls, ∃ c P, LamX.TabB base mg c P ∧ (P, lamQ x) ∈ LT.T ∧ (∀ p ∈ LT.T, p.1 = P → p.2 = lamQ x) ∧ mkB K c x = true
end PV

namespace PV
variable [LT] [RT]
open PySem PySem.Spec PyProof.Rows L2
end PV

namespace PV
variable [LT] [RT]
open PySem PySem.Spec PyProof.Rows L2
end PV

namespace PV
variable [LT] [RT]
open PySem PySem.Spec PyProof.Rows L2
def rL (mg : Str → Option Value) (f : Fn) : List V → Hp → VK → Prop := fun vs H Q => ∃ A ds xs, Fr A H ∧ Reps mg A H vs ds ∧ f ds = some (.lst xs) ∧ ∀ p H', Same H H' → H p = none → Own mg (fun a => A a ∧ a ≠ p) H' p (.lst xs) → Q (.ref p) H'
def spL (mg : Str → Option Value) (f : Fn) : Sp := fun vs H Q _ => rL mg f vs H Q
section
variable {P : Program} {w : World} {K : PySem.W.Frag} {mg : Str → Option Value} {base : Heap}
structure CallN (P : Program) (w : World) (K : PySem.W.Frag) (mg : Str → Option Value) (base : Heap) (k : Nat) (x : Str) (F : Fn) : Prop where
  ex : ∃ f fd ps, FnOk P w K mg base CX0 k f fd ps (spL mg F) ∧ mg x = some (.ref f) ∧ PySem.W.keepIn K (.ref f) = true ∧ Binds K fd ps []
structure MethL (P : Program) (w : World) (K : PySem.W.Frag) (mg : Str → Option Value) (base : Heap) (k : Nat) (c m : Str) (F : Fn) : Prop where
  ex : ∃ C f fd ps, FnOk P w K mg base CX0 k f fd ps (spL mg F) ∧ mg c = some (.ref C) ∧ Cls K C ∧ Meth K C m f ∧ Binds K fd ps []
end
end PV

namespace PV
variable [LT] [RT]
open PySem PySem.Spec PyProof.Rows L2
end PV

namespace PV
variable [LT] [RT]
open PySem PySem.Spec PyProof.Rows L2
end PV

namespace PV
variable [LT] [RT]
open PySem PySem.Spec PyProof.Rows L2
end PV

namespace PV
variable [LT] [RT]
open PySem PySem.Spec PyProof.Rows L2
structure VR (mg : Str → Option Value) (A : Addr → Prop) (σ : L2.St) (H : Hp) (env : DEnv) : Prop where
  len : env.length = σ.length
  vals : ∀ (i : Nat) (d : D), env[i]? = some (DSlot.val d) → ∃ v, σ[i]? = some (some v) ∧ Rep mg A H v d
  pl : ∀ (i : Nat) (x : DSlot), env[i]? = some x → x = .no ∨ ∃ d, x = .val d
def grown (A : Addr → Prop) (H : Hp) : Addr → Prop := fun x => A x ∨ H x = none
section
variable {K : PySem.W.Frag} {mg : Str → Option Value} {A : Addr → Prop} {σ : L2.St} {H H1 : Hp} {env : DEnv}
theorem VR.erel (r : VR mg A σ H env) (sf : Addr) (tb : LamX.Tabs LT.T H) : ERel K mg ⟨H, A, sf, tb⟩ (fun _ => none) σ H env := by
  refine ⟨r.len, Same.refl H, fun i d e => ?_, fun i d e => ?_, fun i d e => ?_, fun i j p a _ => (nomatch a), fun i p a => (nomatch a), fun i p a => (nomatch a), ⟨0, fun _ _ => rfl⟩, fun i p a => (nomatch a)⟩
  · obtain ⟨v, h1, h2⟩ := r.vals i d e
    exact ⟨v, h1, h2.mono (fun a h => ⟨.inl h, .inr fun _ z => nomatch z⟩) keepRefl⟩
  · rcases r.pl i _ e with z | ⟨_, z⟩ <;> cases z
  · rcases r.pl i _ e with z | ⟨_, z⟩ <;> cases z
theorem VR.heap (r : VR mg A σ H env) (s : Same H H1) : VR mg (grown A H) σ H1 env := ⟨r.len, fun i d e => by
  obtain ⟨v, h1, h2⟩ := r.vals i d e
  exact ⟨v, h1, (h2.same s).mono (fun a h => .inl h) keepRefl⟩, r.pl⟩
theorem VR.set (r : VR mg A σ H env) {i : Nat} {v : V} {d : D} (rv : Rep mg A H v d) : VR mg A (σ.set i (some v)) H (env.set i (.val d)) := by
  refine ⟨by simp [r.len], fun j d' e => ?_, fun j x e => ?_⟩
  · rcases get_set e with ⟨rfl, e2, hl⟩ | ⟨hj, e2⟩
    · cases e2
      exact ⟨v, List.getElem?_set_self (by rw [← r.len]; exact hl), rv⟩
    · obtain ⟨w, h1, h2⟩ := r.vals j _ e2
      exact ⟨w, by rw [List.getElem?_set_ne (Ne.symm hj)]; exact h1, h2⟩
  · rcases get_set e with ⟨rfl, e2, hl⟩ | ⟨hj, e2⟩
    · exact .inr ⟨d, e2⟩
    · exact r.pl j x e2
theorem VR.tE (r : VR mg A σ H env) (tb : LamX.Tabs LT.T H) {de : Ex} {d : D} {Q : VK} {τ : Bool} (hd : de env = some d) (q : ∀ v H1, Same H H1 → Rep mg (grown A H) H1 v d → Q v H1) : PV.tE K mg τ de σ H Q :=
  ⟨⟨H, A, 0, tb⟩, fun _ => none, env, d, r.erel 0 tb, hd, fun v H1 s rv => q v H1 s (rv.mono (fun a h => h.1) keepRefl)⟩
theorem VR.tT (r : VR mg A σ H env) (tb : LamX.Tabs LT.T H) {dt : Tx} {b : Bool} {Q : Bool → Hp → Prop} (hd : dt env = some b) (q : ∀ H1, Same H H1 → Q b H1) : PV.tT K mg dt σ H Q :=
  ⟨⟨H, A, 0, tb⟩, fun _ => none, env, b, r.erel 0 tb, hd, q⟩
end
theorem keep_out {A : Addr → Prop} {H : Hp} {b : Addr} {ys : List V} {o' : HO} (hb : ¬ A b) (hH : H b = some (.lst ys)) : Keep A H (upd H b o') := by
  have ne : ∀ {a}, A a → a ≠ b := fun ha z => hb (z ▸ ha)
  refine ⟨fun a u ha _ r => ?_, fun a C dx fs ha e => ?_, fun a xs ha e => ?_, fun a xs e => ?_, fun a ob xs e => ?_⟩
  · rcases r with r | ⟨o, r⟩
    · exact .inl (by rw [upd_ne (ne ha)]; exact r)
    · exact .inr ⟨o, by rw [upd_ne (ne ha)]; exact r⟩
  · rw [upd_ne (ne ha)]; exact e
  · rw [upd_ne (ne ha)]; exact e
  · rw [upd_ne (fun z => by subst z; rw [hH] at e; cases e)]; exact e
  · rw [upd_ne (fun z => by subst z; rw [hH] at e; cases e)]; exact e
structure TB (mg : Str → Option Value) (A : Addr → Prop) (H : Hp) (a : Addr) (bs : List Addr) (rows : List (List D)) : Prop where
  ha : H a = some (.lst (bs.map V.ref))
  na : ¬ A a
  nd : bs.Nodup
  nab : a ∉ bs
  len : bs.length = rows.length
  row : ∀ (j : Nat) (b : Addr) (r : List D), bs[j]? = some b → rows[j]? = some r → ¬ A b ∧ ∃ ys, H b = some (.lst ys) ∧ Reps mg A H ys r
section
variable {mg : Str → Option Value} {A : Addr → Prop} {H H1 : Hp} {a : Addr} {bs : List Addr} {rows : List (List D)}
theorem TB.heap (t : TB mg A H a bs rows) (s : Same H H1) : TB mg (grown A H) H1 a bs rows := by
  refine ⟨s _ _ t.ha, fun h => ?_, t.nd, t.nab, t.len, fun j b r hb hr => ?_⟩
  · rcases h with h | h
    · exact t.na h
    · rw [t.ha] at h; cases h
  · obtain ⟨h1, ys, h2, h3⟩ := t.row j b r hb hr
    refine ⟨fun h => ?_, ys, s _ _ h2, (h3.same s).mono (fun a h => .inl h) keepRefl⟩
    rcases h with h | h
    · exact h1 h
    · rw [h2] at h; cases h
theorem TB.push (t : TB mg A H a bs rows) {j : Nat} {b : Addr} {r : List D} {ys : List V} {v : V} {d : D} (hb : bs[j]? = some b) (hr : rows[j]? = some r) (hH : H b = some (.lst ys)) (rs : Reps mg A H ys r) (rv : Rep mg A H v d) :
    TB mg A (upd H b (.lst (ys ++ [v]))) a bs (rows.set j (r ++ [d])) := by
  have hbA := (t.row j b r hb hr).1
  have kp : Keep A H (upd H b (.lst (ys ++ [v]))) := keep_out hbA hH
  have hab : a ≠ b := fun z => t.nab (z ▸ List.mem_of_getElem? hb)
  have hj : j < rows.length := (List.getElem?_eq_some_iff.mp hr).1
  refine ⟨by rw [upd_ne hab]; exact t.ha, t.na, t.nd, t.nab, by rw [List.length_set]; exact t.len, fun i c r' hc hr' => ?_⟩
  by_cases e : i = j
  · subst e
    rw [hb] at hc
    cases hc
    rw [List.getElem?_set_self hj] at hr'
    cases hr'
    refine ⟨hbA, _, upd_same, ?_⟩
    exact (rs.mono (fun _ h => h) kp).append (.cons (rv.mono (fun _ h => h) kp) .nil)
  · rw [List.getElem?_set_ne (Ne.symm e)] at hr'
    obtain ⟨h1, zs, h2, h3⟩ := t.row i c r' hc hr'
    have hcb : c ≠ b := fun z => by
      subst z
      exact e (nodup_get t.nd hc hb)
    exact ⟨h1, zs, by rw [upd_ne hcb]; exact h2, h3.mono (fun _ h => h) kp⟩
theorem TB.same (t : TB mg A H a bs rows) : bs.length = rows.length := t.len
theorem TB.rep (t : TB mg A H a bs rows) : Rep mg (fun x => A x ∨ x = a ∨ x ∈ bs) H (.ref a) (.lst (rows.map D.lst)) := by
  refine .lst (.inr (.inl rfl)) t.ha ?_
  have : ∀ (cs : List Addr) (rs : List (List D)), cs.length = rs.length → (∀ (j : Nat) b r, cs[j]? = some b → rs[j]? = some r → b ∈ bs ∧ ∃ ys, H b = some (.lst ys) ∧ Reps mg A H ys r) → Reps mg (fun x => A x ∨ x = a ∨ x ∈ bs) H (cs.map V.ref) (rs.map D.lst) := fun cs => by
    induction cs with
    | nil =>
      intro rs hl _
      cases rs with
      | nil => exact .nil
      | cons => cases hl
    | cons c cs ih =>
      intro rs hl h
      cases rs with
      | nil => cases hl
      | cons r rs =>
        obtain ⟨h1, ys, h2, h3⟩ := h 0 c r rfl rfl
        exact .cons (.lst (.inr (.inr h1)) h2 (h3.mono (fun _ z => .inl z) keepRefl)) (ih rs (by simpa using hl) fun j b r' hb hr => h (j + 1) b r' hb hr)
  exact this bs rows t.len fun j b r hb hr => ⟨List.mem_of_getElem? hb, (t.row j b r hb hr).2⟩
end
end PV

namespace PV
variable [LT] [RT]
open PySem PySem.Spec PyProof.Rows L2
structure FI (mg : Str → Option Value) (H0 : Hp) (A0 P : Addr → Prop) (Hw : Hp) (a : Addr) (bs : List Addr) (A : Addr → Prop) (σ : L2.St) (H : Hp) (env : DEnv) (rows : List (List D)) : Prop where
  vr : VR mg A σ H env
  tb : LamX.Tabs LT.T H
  t : TB mg A H a bs rows
  s3 : σ[3]? = some (some (.ref a))
  e3 : env[3]? = some .no
  e8 : env[8]? = some .no
  sub : ∀ x, A x → A0 x ∨ H0 x = none
  sm : Same H0 H
  fa : H0 a = none
  fb : ∀ b ∈ bs, H0 b = none
  l11 : env.length = 11
  pw : ∀ x, P x → A x
  kw : Keep P Hw H
section
variable {K : PySem.W.Frag} {mg : Str → Option Value} {H0 Hw : Hp} {A0 A P : Addr → Prop} {a : Addr} {bs : List Addr} {σ : L2.St} {H H1 : Hp} {env : DEnv} {rows : List (List D)}
theorem FI.heap (f : FI mg H0 A0 P Hw a bs A σ H env rows) (s : Same H H1) : FI mg H0 A0 P Hw a bs (grown A H) σ H1 env rows :=
  ⟨f.vr.heap s, s.tabs f.tb, f.t.heap s, f.s3, f.e3, f.e8, fun x h => h.elim (f.sub x) fun z => .inr (f.sm.dom x z), f.sm.trans s, f.fa, f.fb, f.l11, fun x h => .inl (f.pw x h), f.kw.trans (Same.keep s)⟩
theorem FI.set (f : FI mg H0 A0 P Hw a bs A σ H env rows) {i : Nat} {v : V} {d : D} (rv : Rep mg A H v d) (h3 : i ≠ 3) (h8 : i ≠ 8) : FI mg H0 A0 P Hw a bs A (σ.set i (some v)) H (env.set i (.val d)) rows :=
  ⟨f.vr.set rv, f.tb, f.t, by rw [List.getElem?_set_ne h3]; exact f.s3, by rw [List.getElem?_set_ne h3]; exact f.e3, by rw [List.getElem?_set_ne h8]; exact f.e8, f.sub, f.sm, f.fa, f.fb, by rw [List.length_set]; exact f.l11, f.pw, f.kw⟩
theorem FI.push (f : FI mg H0 A0 P Hw a bs A σ H env rows) {j : Nat} {b : Addr} {r : List D} {ys : List V} {v : V} {d : D} (hb : bs[j]? = some b) (hr : rows[j]? = some r) (hH : H b = some (.lst ys)) (rs : Reps mg A H ys r) (rv : Rep mg A H v d) :
    FI mg H0 A0 P Hw a bs A σ (upd H b (.lst (ys ++ [v]))) env (rows.set j (r ++ [d])) := by
  have hbA := (f.t.row j b r hb hr).1
  have kp : Keep A H (upd H b (.lst (ys ++ [v]))) := keep_out hbA hH
  refine ⟨⟨f.vr.len, fun i d' e => ?_, f.vr.pl⟩, fun p hp => tabS_upd hH trivial (f.tb p hp), f.t.push hb hr hH rs rv, f.s3, f.e3, f.e8, f.sub, f.sm.put (f.fb b (List.mem_of_getElem? hb)) hH trivial, f.fa, f.fb, f.l11, f.pw, f.kw.trans (kp.sub f.pw)⟩
  obtain ⟨w, h1, h2⟩ := f.vr.vals i _ e
  exact ⟨w, h1, h2.mono (fun _ h => h) kp⟩
end
end PV

namespace PV
variable [LT] [RT]
open PySem PySem.Spec PyProof.Rows L2
end PV

namespace PV
variable [LT] [RT]
open PySem PySem.Spec PyProof.Rows L2
end PV

namespace PV
variable [LT] [RT]
open PySem PySem.Spec PyProof.Rows L2
section
variable {X : Cx}
theorem VR.put {mg : Str → Option Value} {A : Addr → Prop} {σ : L2.St} {H : Hp} {env : DEnv} (r : VR mg A σ H env) {i : Nat} {v : V} {d : D} (hs : σ[i]? = some (some v)) (rv : Rep mg A H v d) : VR mg A σ H (env.set i (.val d)) := by
  refine ⟨by rw [List.length_set]; exact r.len, fun j d' e => ?_, fun j x e => ?_⟩
  · rcases get_set e with ⟨rfl, e2, hl⟩ | ⟨hj, e2⟩
    · cases e2
      exact ⟨v, hs, rv⟩
    · exact r.vals j _ e2
  · rcases get_set e with ⟨rfl, e2, hl⟩ | ⟨hj, e2⟩
    · exact .inr ⟨d, e2⟩
    · exact r.pl j x e2
theorem VR.mono {mg : Str → Option Value} {A A' : Addr → Prop} {σ : L2.St} {H : Hp} {env : DEnv} (r : VR mg A σ H env) (h : ∀ x, A x → A' x) : VR mg A' σ H env := ⟨r.len, fun i d e => by
  obtain ⟨v, h1, h2⟩ := r.vals i d e
  exact ⟨v, h1, h2.mono h keepRefl⟩, r.pl⟩
end
end PV

namespace PV
variable [LT] [RT]
open PySem PySem.Spec PyProof.Rows L2
end PV

namespace PV
variable [LT] [RT]
open PySem PySem.Spec PyProof.Rows L2
end PV

namespace PV
variable [LT] [RT]
open PySem PySem.Spec PyProof.Rows L2
end PV

namespace PV
variable [LT] [RT]
open PySem PySem.Spec PyProof.Rows L2
structure SameN (n : Addr) (H H' : Hp) : Prop where
  stay : ∀ (b : Addr) (o : HO), b ≠ n → H b = some o → [NT o] → H' b = some o
  tab : LamX.Tabs LT.T H → LamX.Tabs LT.T H'
  dom : ∀ b, b ≠ n → H' b = none → H b = none
theorem SameN.after {x : Addr} {H H1 H' : Hp} (e : SameN x H1 H') (s : Same H H1) (hx : H x = Option.none) : Same H H' := ⟨fun b o z => e.stay b o (ne_of_none z hx) (s b o z), fun t => e.tab (s.tab t), fun b z => by
  by_cases hb : b = x
  · subst hb; exact hx
  · exact s.dom b (e.dom b hb z)⟩
def spO (mg : Str → Option Value) (F : Fn) : Sp := fun vs H Q _ => ∃ (A : Addr → Prop) (v0 v1 : V) (n : Addr) (d0 d1 dn d : D), vs = [v0, v1, .ref n] ∧ ¬ A n ∧ (∀ a, H a = none → A a) ∧ LamX.Tabs LT.T H ∧ Rep mg A H v0 d0 ∧ Rep mg A H v1 d1 ∧ Own mg A H n dn ∧ F [d0, d1, dn] = some d ∧
  ∀ v H', SameN n H H' → Rep mg (fun a => A a ∨ a = n) H' v d → Q v H'
theorem own_wr {mg : Str → Option Value} {A : Addr → Prop} {H : Hp} {a : Addr} {d : D} (o : Own mg A H a d) : ∃ o, H a = some o ∧ Wr o := by
  cases o with
  | lst h _ => exact ⟨_, h, trivial⟩
  | dicK h _ => exact ⟨_, h, trivial⟩
  | dicT h _ => exact ⟨_, h, trivial⟩
  | ins h _ _ => exact ⟨_, h, trivial⟩
section
variable {P : Program} {w : World} {K : PySem.W.Frag} {mg : Str → Option Value} {base : Heap}
structure MethO (P : Program) (w : World) (K : PySem.W.Frag) (mg : Str → Option Value) (base : Heap) (k : Nat) (c m : Str) (F : Fn) : Prop where
  ex : ∃ C f fd ps, FnOk P w K mg base CX0 k f fd ps (spO mg F) ∧ mg c = some (.ref C) ∧ Cls K C ∧ Meth K C m f ∧ Binds K fd ps []
end
end PV

namespace PV
variable [LT] [RT]
open PySem PySem.Spec PyProof.Rows L2
def insR (sp pts : D) (rows : List D) : D := .ins "Rows" ["space", "points", "rows"] [sp, pts, .lst rows]
structure KS (mg : Str → Option Value) (H0 : Hp) (A0 : Addr → Prop) (r : Addr) (A : Addr → Prop) (σ : L2.St) (H : Hp) (env : DEnv) : Prop where
  vr : VR mg A σ H env
  tb : LamX.Tabs LT.T H
  s0 : σ[0]? = some (some (.ref r))
  sub : ∀ a, A a → A0 a ∨ H0 a = none
  sm : Same H0 H
  l1 : 1 ≤ env.length
section
variable {K : PySem.W.Frag} {mg : Str → Option Value} {H0 : Hp} {A0 : Addr → Prop} {r : Addr} {A : Addr → Prop} {σ : L2.St} {H H1 : Hp} {env : DEnv}
theorem KS.heap (k : KS mg H0 A0 r A σ H env) (s : Same H H1) : KS mg H0 A0 r (grown A H) σ H1 env :=
  ⟨k.vr.heap s, s.tabs k.tb, k.s0, fun a h => h.elim (k.sub a) fun z => .inr (k.sm.dom a z), k.sm.trans s, k.l1⟩
theorem KS.set (k : KS mg H0 A0 r A σ H env) {i : Nat} {v : V} {d : D} (hi : i ≠ 0) (rv : Rep mg A H v d) : KS mg H0 A0 r A (σ.set i (some v)) H (env.set i (.val d)) :=
  ⟨k.vr.set rv, k.tb, by rw [List.getElem?_set_ne hi]; exact k.s0, k.sub, k.sm, by rw [List.length_set]; exact k.l1⟩
theorem KS.asg {D' : Ends} (k : KS mg H0 A0 r A σ H env) {i : Nat} {de : Ex} {d : D} {τ : Bool} (hi : i ≠ 0) (hd : de env = some d) (q : ∀ A' σ' H', KS mg H0 A0 r A' σ' H' (env.set i (.val d)) → D'.nx σ' H') : tAsg (tE K mg τ de) (gName i) D' σ H :=
  k.vr.tE k.tb hd fun v H1 s rv => q _ _ _ ((k.heap s).set hi rv)
end
def spKp (mg : Str → Option Value) (G : D → D → D → Option D) : Sp := fun vs H Q _ => ∃ (A : Addr → Prop) (r L C dx : Addr) (fs : List (Str × V)) (ts : List V) (self : D) (v1 v2 : V) (d1 d2 t : D), vs = [.ref r, v1, v2] ∧ (∀ a, H a = none → A a) ∧ LamX.Tabs LT.T H ∧
  H r = some (.ins C dx fs) ∧ fs.lookup ("rows" : Str) = some (V.ref L) ∧ mg "Rows" = some (.ref C) ∧ H L = some (.lst ts) ∧ Rep mg A H (.ref r) self ∧ Rep mg A H v1 d1 ∧ Rep mg A H v2 d2 ∧ G self d1 d2 = some t ∧ ts.length < szL ∧ ∀ H1 tv, Same H H1 → Rep mg A H1 tv t → Q .non (upd H1 L (.lst (ts ++ [tv])))
end PV

namespace PV
variable [LT] [RT]
open PySem PySem.Spec PyProof.Rows L2
structure RW (mg : Str → Option Value) (A : Addr → Prop) (H : Hp) (r L : Addr) (sp pts : D) (rows : List D) : Prop where
  ex : ∃ (C dx : Addr) (vs vp : V), H r = some (.ins C dx [("space", vs), ("points", vp), ("rows", .ref L)]) ∧ mg "Rows" = some (.ref C) ∧ Rep mg A H vs sp ∧ Rep mg A H vp pts
  ls : ∃ ts : List V, H L = some (.lst ts) ∧ Reps mg A H ts rows ∧ ∀ t ∈ ts, ∃ q, t = V.ref q
  nr : ¬ A r
  nl : ¬ A L
section
variable {mg : Str → Option Value} {A : Addr → Prop} {H H1 : Hp} {r L : Addr} {sp pts : D} {rows : List D}
theorem RW.rep (w : RW mg A H r L sp pts rows) : Rep mg (fun a => A a ∨ a = r ∨ a = L) H (.ref r) (insR sp pts rows) := by
  obtain ⟨C, dx, vs, vp, h1, h2, h3, h4⟩ := w.ex
  obtain ⟨ts, h5, h6, _⟩ := w.ls
  have up : ∀ a, A a → A a ∨ a = r ∨ a = L := fun a h => .inl h
  have : Rep mg (fun a => A a ∨ a = r ∨ a = L) H (.ref r) (.ins "Rows" (([("space", vs), ("points", vp), ("rows", .ref L)] : List (Str × V)).map (·.1)) [sp, pts, .lst rows]) :=
    .ins (.inr (.inl rfl)) h1 h2 (.cons (h3.mono up keepRefl) (.cons (h4.mono up keepRefl) (.cons (.lst (.inr (.inr rfl)) h5 (h6.mono up keepRefl)) .nil)))
  exact this
theorem RW.heap (w : RW mg A H r L sp pts rows) (s : Same H H1) : RW mg (grown A H) H1 r L sp pts rows := by
  obtain ⟨C, dx, vs, vp, h1, h2, h3, h4⟩ := w.ex
  obtain ⟨ts, h5, h6, h7⟩ := w.ls
  refine ⟨⟨C, dx, vs, vp, s _ _ h1, h2, (h3.same s).mono (fun a h => .inl h) keepRefl, (h4.same s).mono (fun a h => .inl h) keepRefl⟩, ⟨ts, s _ _ h5, (h6.same s).mono (fun a h => .inl h) keepRefl, h7⟩, fun h => ?_, fun h => ?_⟩
  · rcases h with h | h
    · exact w.nr h
    · rw [h1] at h; cases h
  · rcases h with h | h
    · exact w.nl h
    · rw [h5] at h; cases h
end
def spTk (mg : Str → Option Value) (G : D → D → Option (D × Option D)) : Sp := fun vs H Q _ => ∃ (A : Addr → Prop) (r L : Addr) (sp pts : D) (rows : List D) (v1 : V) (d1 res : D) (ro : Option D), vs = [.ref r, v1] ∧ (∀ a, H a = none → A a) ∧ LamX.Tabs LT.T H ∧
  RW mg A H r L sp pts rows ∧ Rep mg A H v1 d1 ∧ G (insR sp pts rows) d1 = some (res, ro) ∧ rows.length < szL ∧
  ∀ v H', SameN L H H' → (∀ b, H' b = none → H b = none) → Keep A H H' → RW mg A H' r L sp pts (rows ++ ro.toList) → Rep mg A H' v res → Q v H'
section
variable {P : Program} {w : World} {K : PySem.W.Frag} {mg : Str → Option Value} {base : Heap}
structure TakeOk (P : Program) (w : World) (K : PySem.W.Frag) (mg : Str → Option Value) (base : Heap) (k : Nat) (G : D → D → Option (D × Option D)) : Prop where
  ex : ∃ C f fd ps, FnOk P w K mg base CX0 k f fd ps (spTk mg G) ∧ mg "Rows" = some (.ref C) ∧ Cls K C ∧ Meth K C "take" f ∧ Binds K fd ps []
structure KeepOk (P : Program) (w : World) (K : PySem.W.Frag) (mg : Str → Option Value) (base : Heap) (k : Nat) (G : D → D → D → Option D) : Prop where
  ex : ∃ C f fd ps, FnOk P w K mg base CX0 k f fd ps (spKp mg G) ∧ mg "Rows" = some (.ref C) ∧ Cls K C ∧ Meth K C "keep" f ∧ Binds K fd ps []
end
end PV

namespace PV
variable [LT] [RT]
open PySem PySem.Spec PyProof.Rows L2
def spRI (mg : Str → Option Value) : Sp := fun vs H Q _ => ∃ (x dx C : Addr) (v1 v2 : V), vs = [.ref x, v1, v2] ∧ H x = some (.ins C dx []) ∧ mg "Rows" = some (.ref C) ∧
  ∀ L H', SameX x H H' → H L = none → L ≠ x → H' L = some (.lst []) → H' x = some (.ins C dx [("space", v1), ("points", v2), ("rows", .ref L)]) → Q .non H'
section
variable {P : Program} {w : World} {K : PySem.W.Frag} {mg : Str → Option Value} {base : Heap}
structure RMakeOk (P : Program) (w : World) (K : PySem.W.Frag) (mg : Str → Option Value) (base : Heap) (k : Nat) : Prop where
  ex : ∃ C f fd ps, FnOk P w K mg base CX0 k f fd ps (spRI mg) ∧ mg "Rows" = some (.ref C) ∧ Mk K C f ∧ Binds K fd ps []
end
structure OL (mg : Str → Option Value) (A : Addr → Prop) (σ : L2.St) (H : Hp) (i : Nat) (a : Addr) (ds : List D) : Prop where
  s : σ[i]? = some (some (.ref a))
  h : ∃ xs, H a = some (.lst xs) ∧ Reps mg A H xs ds
  na : ¬ A a
section
variable {K : PySem.W.Frag} {mg : Str → Option Value} {A : Addr → Prop} {σ : L2.St} {H H1 : Hp} {i : Nat} {a : Addr} {ds : List D} {r L : Addr} {sp pts : D} {rows : List D} {env : DEnv}
theorem OL.heap (o : OL mg A σ H i a ds) (s : Same H H1) : OL mg A σ H1 i a ds := by
  obtain ⟨xs, h1, h2⟩ := o.h
  exact ⟨o.s, ⟨xs, s _ _ h1, h2.same s⟩, o.na⟩
theorem OL.set (o : OL mg A σ H i a ds) {j : Nat} {v : V} (hj : j ≠ i) : OL mg A (σ.set j (some v)) H i a ds := ⟨by rw [List.getElem?_set_ne hj]; exact o.s, o.h, o.na⟩
theorem OL.keep (o : OL mg A σ H i a ds) (k : Keep A H H1) (h : ∀ xs, H a = some (.lst xs) → H1 a = some (.lst xs)) : OL mg A σ H1 i a ds := by
  obtain ⟨xs, h1, h2⟩ := o.h
  exact ⟨o.s, ⟨xs, h _ h1, h2.mono (fun _ z => z) k⟩, o.na⟩
theorem RW.same (w : RW mg A H r L sp pts rows) (s : Same H H1) : RW mg A H1 r L sp pts rows := by
  obtain ⟨C, dx, vs, vp, h1, h2, h3, h4⟩ := w.ex
  obtain ⟨ts, h5, h6, h7⟩ := w.ls
  exact ⟨⟨C, dx, vs, vp, s _ _ h1, h2, h3.same s, h4.same s⟩, ⟨ts, s _ _ h5, h6.same s, h7⟩, w.nr, w.nl⟩
theorem RW.put (w : RW mg A H r L sp pts rows) {b : Addr} {ys : List V} {o' : HO} (hb : ¬ A b) (hH : H b = some (.lst ys)) (hL : L ≠ b) : RW mg A (upd H b o') r L sp pts rows := by
  obtain ⟨C, dx, vs, vp, h1, h2, h3, h4⟩ := w.ex
  obtain ⟨ts, h5, h6, h7⟩ := w.ls
  have k : Keep A H (upd H b o') := keep_out hb hH
  have hr : r ≠ b := fun z => by subst z; rw [h1] at hH; cases hH
  exact ⟨⟨C, dx, vs, vp, by rw [upd_ne hr]; exact h1, h2, h3.mono (fun _ z => z) k, h4.mono (fun _ z => z) k⟩, ⟨ts, by rw [upd_ne hL]; exact h5, h6.mono (fun _ z => z) k, h7⟩, w.nr, w.nl⟩
theorem OL.put (o : OL mg A σ H i a ds) {b : Addr} {ys : List V} {o' : HO} (hb : ¬ A b) (hH : H b = some (.lst ys)) (hab : a ≠ b) : OL mg A σ (upd H b o') i a ds :=
  o.keep (keep_out hb hH) fun xs h => by rw [upd_ne hab]; exact h
theorem VR.keep (v : VR mg A σ H env) (k : Keep A H H1) : VR mg A σ H1 env := ⟨v.len, fun i d e => let ⟨w, h1, h2⟩ := v.vals i d e; ⟨w, h1, h2.mono (fun _ z => z) k⟩, v.pl⟩
end
structure WS (mg : Str → Option Value) (H0 Hw : Hp) (A0 A : Addr → Prop) (r L k f l : Addr) (sp pts : D) (σ : L2.St) (H : Hp) (env : DEnv) (rows kept found leads : List D) : Prop where
  vr : VR mg A σ H env
  tb : LamX.Tabs LT.T H
  rw : RW mg A H r L sp pts rows
  s3 : σ[3]? = some (some (.ref r))
  ok : OL mg A σ H 4 k kept
  of : OL mg A σ H 5 f found
  ol : OL mg A σ H 6 l leads
  kf : k ≠ f
  kl : k ≠ l
  fl : f ≠ l
  kL : k ≠ L
  fL : f ≠ L
  lL : l ≠ L
  fr : ∀ a, H a = none → A a
  sub : ∀ a, A a → A0 a ∨ H0 a = none
  sm : Same H0 H
  z : H0 r = none ∧ H0 L = none ∧ H0 k = none ∧ H0 f = none ∧ H0 l = none
  kw : Keep A Hw H
  l10 : env.length = 10
section
variable {K : PySem.W.Frag} {mg : Str → Option Value} {H0 Hw : Hp} {A0 A : Addr → Prop} {r L k f l : Addr} {sp pts : D} {σ : L2.St} {H H1 : Hp} {env : DEnv} {rows kept found leads : List D}
theorem WS.heap (w : WS mg H0 Hw A0 A r L k f l sp pts σ H env rows kept found leads) (s : Same H H1) : WS mg H0 Hw A0 A r L k f l sp pts σ H1 env rows kept found leads :=
  ⟨w.vr.keep (Same.keep s), s.tabs w.tb, w.rw.same s, w.s3, w.ok.heap s, w.of.heap s, w.ol.heap s, w.kf, w.kl, w.fl, w.kL, w.fL, w.lL, fun a h => w.fr a (s.dom a h), w.sub, w.sm.trans s, w.z, w.kw.trans (Same.keep s), w.l10⟩
theorem WS.set (w : WS mg H0 Hw A0 A r L k f l sp pts σ H env rows kept found leads) {i : Nat} {v : V} {d : D} (hi : i = 7 ∨ i = 8) (rv : Rep mg A H v d) : WS mg H0 Hw A0 A r L k f l sp pts (σ.set i (some v)) H (env.set i (.val d)) rows kept found leads :=
  ⟨w.vr.set rv, w.tb, w.rw, by rw [List.getElem?_set_ne (by omega)]; exact w.s3, w.ok.set (by omega), w.of.set (by omega), w.ol.set (by omega), w.kf, w.kl, w.fl, w.kL, w.fL, w.lL, w.fr, w.sub, w.sm, w.z, w.kw, by rw [List.length_set]; exact w.l10⟩
theorem WS.appK {D' : Ends} (w : WS mg H0 Hw A0 A r L k f l sp pts σ H env rows kept found leads) {j : Nat} {d : D} (hj : env[j]? = some (.val d)) (hz : kept.length < szL) (q : ∀ H', WS mg H0 Hw A0 A r L k f l sp pts σ H' env rows (kept ++ [d]) found leads → D'.nx σ H') :
    (tDrop (tBM K "list" rAppend (tVar 4) (tCons (tVar j) tNil))) D' σ H := by
  obtain ⟨v, h1, h2⟩ := w.vr.vals j d hj
  obtain ⟨xs, hH, rs⟩ := w.ok.h
  have kp : Keep A H (upd H k (.lst (xs ++ [v]))) := keep_out w.ok.na hH
  refine ⟨.ref k, w.ok.s, .inl ⟨rfl, xs, .inl (.inl hH)⟩, v, h1, k, xs, v, rfl, rfl, hH, by rw [rs.len]; exact Nat.lt_of_lt_of_le hz (szL_ok (Nat.le_refl _)), ?_⟩
  refine q _ ⟨w.vr.keep kp, fun p hp => tabS_upd hH trivial (w.tb p hp), w.rw.put w.ok.na hH (Ne.symm w.kL), w.s3, ⟨w.ok.s, ⟨_, upd_same, ?_⟩, w.ok.na⟩, w.of.put w.ok.na hH (Ne.symm w.kf), w.ol.put w.ok.na hH (Ne.symm w.kl), w.kf, w.kl, w.fl, w.kL, w.fL, w.lL, fun a h => w.fr a (dom_upd h), w.sub, w.sm.put w.z.2.2.1 hH trivial, w.z, w.kw.trans kp, w.l10⟩
  exact (rs.mono (fun _ h => h) kp).append (.cons (h2.mono (fun _ h => h) kp) .nil)
end
end PV

namespace PV
variable [LT] [RT]
open PySem PySem.Spec PyProof.Rows L2
end PV

namespace PV
variable [LT] [RT]
open PySem PySem.Spec PyProof.Rows L2
end PV

namespace PV
variable [LT] [RT]
open PySem PySem.Spec PyProof.Rows L2
end PV

namespace PV
variable [LT] [RT]
open PySem PySem.Spec PyProof.Rows L2
theorem lc_walk {K : PySem.W.Frag} {mg : Str → Option Value} {B : Bs} {O : Nat → Option Addr} {env : DEnv} {J : It} {xs ys : List PV.D} {g : Tg} {dt : Tx} {tt : TT} {te : Ex} {ws : List Nat} {σ : L2.St} {H1 : Hp} {Q : VK} (hw : ∀ i ∈ g.slots, i ∈ ws)
    (htt : ∀ B O σ env b H Q, ERel K mg B O σ H env → dt env = some b → (∀ H', Same H H' → Q b H') → tt σ H Q) (rl1 : ERel K mg B O σ H1 env) (hz : xs.length ≤ szL) (hno : noOwn env ws = true) (hr : lcRun (gD g) dt te (PV.wip env ws) xs = some ys)
    (wk : WalksS mg (fun a => Lv B O false a ∧ ∃ o, H1 a = some o) J xs H1) (q : ∀ p H', Same H1 H' → H1 p = none → Own mg (fun a => Lv B O false a ∧ a ≠ p) H' p (.lst ys) → Q (.ref p) H') :
    tLc (fun _ _ R => R J H1) (tgR K g) tt (tE K mg false te) ws σ H1 Q := by
  intro D hD
  have hws : ∀ i ∈ ws, i < σ.length := fun i hi => by
    have z := List.all_eq_true.mp hno i hi
    rw [← rl1.len]
    cases e : (env[i]? : Option DSlot) with
    | none => rw [e] at z; cases z
    | some x => exact (List.getElem?_eq_some_iff.mp e).1
  have noO : ∀ i ∈ ws, O i = none := fun i hi => rl1.noO hno hi (by rw [rl1.len]; exact hws i hi)
  obtain ⟨n, hnl, rm, sub⟩ := (rl1.wip ws hno).more (o := .lst []) hD trivial
  have hOn : putO O n D n = some D := by unfold putO; rw [if_pos rfl]
  have hlen : (PV.wip env ws).length = σ.length := by rw [wip_len]; exact rl1.len
  have noP : ∀ i ∈ g.slots, putO O n D i = none := fun i hi => by
    have := hws i (hw i hi)
    unfold putO
    rw [if_neg (by omega)]
    exact noO i (hw i hi)
  refine ⟨fun i m H' => m = xs.length - i ∧ i ≤ xs.length ∧ ∃ vs ys1 ys2, H' D = some (.lst vs) ∧ ERel K mg B (putO O n D) (wipe σ ws) H' (PV.wip env ws) ∧ Reps mg (Lv B (putO O n D) false) H' vs ys1 ∧ ys1.length ≤ i ∧ lcRun (gD g) dt te (PV.wip env ws) (xs.drop i) = some ys2 ∧ ys = ys1 ++ ys2 ∧ Same H1 H',
    ⟨xs.length, by simp, Nat.zero_le _, [], [], ys, upd_same, rm, .nil, Nat.le_refl _, by simpa using hr, rfl, same_upd hD⟩, ?_⟩
  rintro i m H' ⟨rfl, hi', vs, ys1, ys2, hHD, rl', rs, hly, hrun, hys, sm⟩
  by_cases hlt : i < xs.length
  · have hxi : xs[i]? = some xs[i] := List.getElem?_eq_getElem hlt
    obtain ⟨go, yl⟩ := (wk i H' sm).1 _ hxi
    rw [List.drop_eq_getElem_cons hlt] at hrun
    unfold lcRun at hrun
    obtain ⟨e1, he1, hrun⟩ := bnd hrun
    obtain ⟨c, hc, hrun⟩ := bnd hrun
    refine .inr ⟨go, fun H'' => ∃ vs ys1 ys2, H'' D = some (.lst vs) ∧ ERel K mg B (putO O n D) (wipe σ ws) H'' (PV.wip env ws) ∧ Reps mg (Lv B (putO O n D) false) H'' vs ys1 ∧ ys1.length ≤ i + 1 ∧ lcRun (gD g) dt te (PV.wip env ws) (xs.drop (i + 1)) = some ys2 ∧ ys = ys1 ++ ys2 ∧ Same H1 H'',
      fun H'' z => ⟨xs.length - (i + 1), by omega, rfl, hlt, z⟩, fun v H3 y => ?_⟩
    obtain ⟨s3, rv⟩ := yl v H3 y
    have rl3 := rl'.heap s3
    have rv' : Rep mg (Lv B (putO O n D) false) H3 v xs[i] := rv.mono (fun a ha => ⟨ha.1.1, .inr fun j z => by
      unfold putO at z
      split at z
      · cases z
        obtain ⟨o, ho⟩ := ha.2
        rw [hD] at ho; cases ho
      · exact ha.1.2.elim (fun z => Bool.noConfusion z) fun w => w j z⟩) keepRefl
    refine tgR_oks g rl3 noP rv' he1 fun σ4 r4 w4 => ⟨by rw [w4 ws hw]; exact wipe_idem, ?_⟩
    refine htt B _ σ4 e1 c H3 _ r4 hc fun H5 s5 => ?_
    cases c with
    | true =>
      obtain ⟨yv, hyv, hrun⟩ := bnd hrun
      obtain ⟨ys', hys', hrun⟩ := bnd hrun
      cases hrun
      refine iteT ⟨B, _, e1, yv, r4.heap s5, hyv, fun w H6 s6 rw6 => ?_⟩
      have s36 := s3.trans (s5.trans s6)
      have hD6 : H6 D = some (.lst vs) := s36 _ _ hHD
      have rl6 := rl'.heap s36
      refine ⟨vs, hD6, ?_, vs ++ [w], ys1 ++ [yv], ys', upd_same, rl6.poke hOn (by omega) trivial, ?_, by simp; omega, hys', by rw [hys]; simp, ?_⟩
      · have : vs.length ≤ i := by rw [rs.len]; exact hly
        have hz' := szL_ok hz
        omega
      · have k := keep_write (o' := .lst (vs ++ [w])) rl6 hOn
        exact ((rs.same s36).mono (fun _ z => z) k).append (.cons (rw6.mono (fun _ z => z) k) .nil)
      · exact (sm.trans s36).put hD hD6 trivial
    | false =>
      have s35 := s3.trans s5
      exact iteF ⟨vs, ys1, ys2, s35 _ _ hHD, rl'.heap s35, rs.same s35, by omega, hrun, hys, sm.trans s35⟩
  · have hn : xs[i]? = none := List.getElem?_eq_none (by omega)
    have hdr : xs.drop i = [] := List.drop_eq_nil_of_le (by omega)
    rw [hdr] at hrun
    unfold lcRun at hrun
    cases hrun
    rw [List.append_nil] at hys
    subst hys
    refine .inl ⟨(wk i H' sm).2 hn, ?_⟩
    refine q D H' sm hD (.lst hHD (rs.mono (fun a ha => ⟨sub false a ha, fun z => ?_⟩) keepRefl))
    subst z
    exact ha.2.elim (fun z => Bool.noConfusion z) fun w => w n hOn
section
variable {X : Cx}
theorem walksS_own {mg : Str → Option Value} {K : PySem.W.Frag} {A : Addr → Prop} {H1 : Hp} {a : Addr} {vs : List V} {ds : List PV.D} (h : H1 a = some (.lst vs)) (r : Reps mg A H1 vs ds) : WalksS mg (fun b => A b ∧ ∃ o, H1 b = some o) (Itl K a) ds H1 := by
  intro i H s
  have hq : SqL K H a vs := .inl (.inl (s _ _ h))
  refine ⟨fun x e => ?_, fun e => ?_⟩
  · obtain ⟨v, h1, h2⟩ := (r.keepT (B := fun b => A b ∧ ∃ o, H1 b = some o) fun b hb o => ⟨hb, o⟩).get e
    refine ⟨⟨vs, v, hq, h1⟩, fun u H' y => ?_⟩
    obtain ⟨y1, y2⟩ := y
    subst y1
    have z := y2 vs hq
    rw [h1] at z
    cases z
    exact ⟨Same.refl _, h2.same s⟩
  · exact ⟨vs, hq, by rw [r.len]; exact List.getElem?_eq_none_iff.mp e⟩
theorem sn_lcO (i : Nat) {x : Str} {elt tg : Expr} {scope : Scope} {own : List (Str × Nat)} {px pos : Pos} {g : Tg} {te : Ex} (hc : X.calm = true) (hN : X.N.Nodup) (ok : BlkOk X.N X.env.scope scope own)
    (hg : ∀ (s : Shared) (H : Hp) (C : Addr) (cl : List (Str × Addr)) (fp : List Addr), PT1 (X.blk s H scope (compEnvC scope cl C X.env) fp) tg g)
    (he : ∀ (s : Shared) (H : Hp) (C : Addr) (cl : List (Str × Addr)) (fp : List Addr), SE (X.blk s H scope (compEnvC scope cl C X.env) fp) false elt te)
    (hNx : X.N[i]? = some x := by rfl) (hvx : Vis X.env.scope x := by first | exact Or.inl rfl | exact Or.inr (Or.inl rfl) | exact Or.inr (Or.inr rfl)) (hdx : (x == ("__debug__" : Str)) = false := by decide) (hcdx : (x == ("__classdict__" : Str)) = false := by decide)
    (hw : ∀ i ∈ g.slots, i ∈ own.map (·.2) := by decide) (hs : ∀ y, foldedSetIterable (.Name x px) X.env y = pure y := by intro _; rfl) {ws : List Nat} (hws : own.map (·.2) = ws := by rfl) :
    SN X (.ListComp elt [⟨tg, .Name x px, [], 0⟩] scope pos) (lcE (iLst (ovar i)) g yes te ws) := by
  subst hws
  refine (pe_lc (te := tE X.K X.mg false te) hc hN (pi_list (pe_var hNx hvx hdx hcdx)) ok (g := tgR X.K g) hg (fun _ _ _ _ _ => pts_nil) he hs).weak fun σ H Q ⟨B, O, env, d, rl, e, q⟩ => ?_
  obtain ⟨xs, hx, e⟩ := bnd e
  split at e
  · rename_i hz
    obtain ⟨ys, hr, e⟩ := bnd e
    cases e
    obtain ⟨y, hy, hx⟩ := bnd hx
    unfold ovar at hy
    split at hy
    · rename_i y' hi
      cases hy
      split at hx
      · cases hx
        obtain ⟨p, h1, h2, h3, h4⟩ := rl.owns i _ hi
        cases h4 with
        | lst hH rs =>
          exact ⟨.ref p, h2, p, rfl, ⟨_, .inl (.inl hH)⟩, lc_walk hw (fun B O σ env b H Q _ e q => by cases e; exact q H (Same.refl H)) rl hz.1 hz.2 hr (walksS_own hH rs) q⟩
      · cases hx
    · cases hy
  · cases e
end
end PV

namespace PV
variable [LT] [RT]
open PySem PySem.Spec PyProof.Rows L2
def spW (mg : Str → Option Value) (f : Fn) (j : Nat) : Sp := fun vs H Q _ => ∃ A ds x kept, Fr A H ∧ Reps mg A H vs ds ∧ f ds = some x ∧ getD x (.int (j : Int)) = some (.lst kept) ∧
  ∀ t us p H', Same H H' → H p = none → H' t = some (.tup us) → us[j]? = some (.ref p) → Own mg (fun a => A a ∧ a ≠ p) H' p (.lst kept) → Q (.ref t) H'
section
variable {P : Program} {w : World} {K : PySem.W.Frag} {mg : Str → Option Value} {base : Heap}
structure CallW (P : Program) (w : World) (K : PySem.W.Frag) (mg : Str → Option Value) (base : Heap) (k : Nat) (x : Str) (F : Fn) (j : Nat) : Prop where
  ex : ∃ f fd ps, FnOk P w K mg base CX0 k f fd ps (spW mg F j) ∧ mg x = some (.ref f) ∧ PySem.W.keepIn K (.ref f) = true ∧ Binds K fd ps []
end
end PV

namespace PV
variable [LT] [RT]
open PySem PySem.Spec PyProof.Rows L2
end PV

namespace PV
variable [LT] [RT]
open PySem PySem.Spec PyProof.Rows L2
def spCp3 (mg : Str → Option Value) (c f g h : Str) : Sp := fun vs H Q _ => ∃ (x dx C p : Addr) (u t : V) (ws : List V), vs = [.ref x, u, .ref p, t] ∧ H x = some (.ins C dx []) ∧ mg c = some (.ref C) ∧ p ≠ x ∧ H p = some (.lst ws) ∧
  ∀ q, q ≠ x → H q = none → Q .non (upd (upd (upd (upd H x (.ins C dx [(f, u)])) q (.lst ws)) x (.ins C dx [(f, u), (g, .ref q)])) x (.ins C dx [(f, u), (g, .ref q), (h, t)]))
structure CopyOk3 (P : Program) (w : World) (K : PySem.W.Frag) (mg : Str → Option Value) (base : Heap) (k : Nat) (c f g h : Str) : Prop where
  ex : ∃ C fa fd ps, FnOk P w K mg base CX0 k fa fd ps (spCp3 mg c f g h) ∧ mg c = some (.ref C) ∧ Mk K C fa ∧ Binds K fd ps []
end PV

namespace PV
variable [LT] [RT]
open PySem PySem.Spec PyProof.Rows L2

end PV

namespace PV
variable [LT] [RT]
open PySem PySem.Spec PyProof.Rows L2
end PV

namespace PV
variable [LT] [RT]
open PySem PySem.Spec PyProof.Rows L2
end PV

namespace PV
variable [LT] [RT]
open PySem PySem.Spec PyProof.Rows L2
end PV

namespace PV
variable [LT] [RT]
open PySem PySem.Spec PyProof.Rows L2
end PV

namespace PV
variable [LT] [RT]
open PySem PySem.Spec PyProof.Rows L2
end PV

namespace PV
variable [LT] [RT]
open PySem PySem.Spec PyProof.Rows L2
instance {P : Program} {w : World} {a : Addr} {L : List (Addr × List Int)} : NT (SetTO P w a L) := ⟨fun _ h => nomatch h⟩
end PV

namespace PV
variable [LT] [RT]
open PySem PySem.Spec PyProof.Rows L2
end PV

namespace PV
variable [LT] [RT]
open PySem PySem.Spec PyProof.Rows L2
abbrev Drow := List D × List D
theorem keep_outD {A : Addr → Prop} {H : Hp} {b : Addr} {kvs : List (List Key × V)} {o' : HO} (hb : ¬ A b) (hH : H b = some (.dT kvs)) : Keep A H (upd H b o') := by
  have ne : ∀ {a}, A a → a ≠ b := fun ha z => hb (z ▸ ha)
  refine ⟨fun a u ha _ r => ?_, fun a C dx fs ha e => ?_, fun a xs ha e => ?_, fun a xs e => ?_, fun a ob xs e => ?_⟩
  · rcases r with r | ⟨o, r⟩
    · exact .inl (by rw [upd_ne (ne ha)]; exact r)
    · exact .inr ⟨o, by rw [upd_ne (ne ha)]; exact r⟩
  · rw [upd_ne (ne ha)]; exact e
  · rw [upd_ne (ne ha)]; exact e
  · rw [upd_ne (fun z => by subst z; rw [hH] at e; cases e)]; exact e
  · rw [upd_ne (fun z => by subst z; rw [hH] at e; cases e)]; exact e
structure TD (mg : Str → Option Value) (A : Addr → Prop) (H : Hp) (a : Addr) (bs : List Addr) (rows : List Drow) : Prop where
  ha : H a = some (.lst (bs.map V.ref))
  na : ¬ A a
  nd : bs.Nodup
  nab : a ∉ bs
  len : bs.length = rows.length
  row : ∀ (j : Nat) (b : Addr) (r : Drow), bs[j]? = some b → rows[j]? = some r → ¬ A b ∧ ∃ kvs : List (List Key × V), H b = some (.dT kvs) ∧ Reps mg A H (kvs.map (·.2)) r.2 ∧ r.1 = kvs.map fun p => .tup (p.1.map kD)
section
variable {mg : Str → Option Value} {A : Addr → Prop} {H H1 : Hp} {a : Addr} {bs : List Addr} {rows : List Drow}
theorem TD.heap (t : TD mg A H a bs rows) (s : Same H H1) : TD mg (grown A H) H1 a bs rows := by
  refine ⟨s _ _ t.ha, fun h => ?_, t.nd, t.nab, t.len, fun j b r hb hr => ?_⟩
  · rcases h with h | h
    · exact t.na h
    · rw [t.ha] at h; cases h
  · obtain ⟨h1, kvs, h2, h3, h4⟩ := t.row j b r hb hr
    refine ⟨fun h => ?_, kvs, s _ _ h2, (h3.same s).mono (fun a h => .inl h) keepRefl, h4⟩
    rcases h with h | h
    · exact h1 h
    · rw [h2] at h; cases h
theorem TD.put (t : TD mg A H a bs rows) {j : Nat} {b : Addr} {r : Drow} {kvs : List (List Key × V)} {k : List Key} {v : V} {d : D} (hb : bs[j]? = some b) (hr : rows[j]? = some r) (hH : H b = some (.dT kvs)) (rs : Reps mg A H (kvs.map (·.2)) r.2) (rk : r.1 = kvs.map fun p => .tup (p.1.map kD)) (rv : Rep mg A H v d) :
    TD mg A (upd H b (.dT (L2.putK kvs k v))) a bs (rows.set j (dput r.1 r.2 (.tup (k.map kD)) d)) := by
  have hbA := (t.row j b r hb hr).1
  have kp : Keep A H (upd H b (.dT (L2.putK kvs k v))) := keep_outD hbA hH
  have hab : a ≠ b := fun z => t.nab (z ▸ List.mem_of_getElem? hb)
  have hj : j < rows.length := (List.getElem?_eq_some_iff.mp hr).1
  refine ⟨by rw [upd_ne hab]; exact t.ha, t.na, t.nd, t.nab, by rw [List.length_set]; exact t.len, fun i c r' hc hr' => ?_⟩
  by_cases e : i = j
  · subst e
    rw [hb] at hc
    cases hc
    rw [List.getElem?_set_self hj] at hr'
    cases hr'
    obtain ⟨z1, z2⟩ := dput_put eqv_kT (k := k) rv rs
    rw [rk]
    exact ⟨hbA, _, upd_same, z2.mono (fun _ h => h) kp, z1.symm⟩
  · rw [List.getElem?_set_ne (Ne.symm e)] at hr'
    obtain ⟨h1, zs, h2, h3, h4⟩ := t.row i c r' hc hr'
    have hcb : c ≠ b := fun z => by
      subst z
      exact e (nodup_get t.nd hc hb)
    exact ⟨h1, zs, by rw [upd_ne hcb]; exact h2, h3.mono (fun _ h => h) kp, h4⟩
theorem TD.rep (t : TD mg A H a bs rows) : Rep mg (fun x => A x ∨ x = a ∨ x ∈ bs) H (.ref a) (.lst (rows.map fun r => D.dic true r.1 r.2)) := by
  refine .lst (.inr (.inl rfl)) t.ha ?_
  have : ∀ (cs : List Addr) (rs : List Drow), cs.length = rs.length → (∀ (j : Nat) b r, cs[j]? = some b → rs[j]? = some r → b ∈ bs ∧ ∃ kvs : List (List Key × V), H b = some (.dT kvs) ∧ Reps mg A H (kvs.map (·.2)) r.2 ∧ r.1 = kvs.map fun p => .tup (p.1.map kD)) → Reps mg (fun x => A x ∨ x = a ∨ x ∈ bs) H (cs.map V.ref) (rs.map fun r => D.dic true r.1 r.2) := fun cs => by
    induction cs with
    | nil =>
      intro rs hl _
      cases rs with
      | nil => exact .nil
      | cons => cases hl
    | cons c cs ih =>
      intro rs hl h
      cases rs with
      | nil => cases hl
      | cons r rs =>
        obtain ⟨h1, ys, h2, h3, h4⟩ := h 0 c r rfl rfl
        refine .cons ?_ (ih rs (by simpa using hl) fun j b r' hb hr => h (j + 1) b r' hb hr)
        show Rep mg _ H (.ref c) (D.dic true r.1 r.2)
        rw [h4]
        exact .dicT (.inr (.inr h1)) (.inl h2) (h3.mono (fun _ z => .inl z) keepRefl)
  exact this bs rows t.len fun j b r hb hr => ⟨List.mem_of_getElem? hb, (t.row j b r hb hr).2⟩
end
structure FD (mg : Str → Option Value) (H0 : Hp) (A0 : Addr → Prop) (Ks : List ((Addr → Prop) × Hp)) (a : Addr) (bs : List Addr) (A : Addr → Prop) (σ : L2.St) (H : Hp) (env : DEnv) (rows : List Drow) : Prop where
  vr : VR mg A σ H env
  tb : LamX.Tabs LT.T H
  t : TD mg A H a bs rows
  s4 : σ[4]? = some (some (.ref a))
  e4 : env[4]? = some .no
  sub : ∀ x, A x → A0 x ∨ H0 x = none
  sm : Same H0 H
  fa : H0 a = none
  fb : ∀ b ∈ bs, H0 b = none
  l11 : env.length = 11
  kw : ∀ p ∈ Ks, (∀ x, p.1 x → A x) ∧ Keep p.1 p.2 H
section
variable {K : PySem.W.Frag} {mg : Str → Option Value} {H0 : Hp} {A0 A : Addr → Prop} {Ks : List ((Addr → Prop) × Hp)} {a : Addr} {bs : List Addr} {σ : L2.St} {H H1 : Hp} {env : DEnv} {rows : List Drow}
theorem FD.heap (f : FD mg H0 A0 Ks a bs A σ H env rows) (s : Same H H1) : FD mg H0 A0 Ks a bs (grown A H) σ H1 env rows :=
  ⟨f.vr.heap s, s.tabs f.tb, f.t.heap s, f.s4, f.e4, fun x h => h.elim (f.sub x) fun z => .inr (f.sm.dom x z), f.sm.trans s, f.fa, f.fb, f.l11, fun p hp => ⟨fun x h => .inl ((f.kw p hp).1 x h), (f.kw p hp).2.trans (Same.keep s)⟩⟩
theorem FD.set (f : FD mg H0 A0 Ks a bs A σ H env rows) {i : Nat} {v : V} {d : D} (rv : Rep mg A H v d) (h4 : i ≠ 4) : FD mg H0 A0 Ks a bs A (σ.set i (some v)) H (env.set i (.val d)) rows :=
  ⟨f.vr.set rv, f.tb, f.t, by rw [List.getElem?_set_ne h4]; exact f.s4, by rw [List.getElem?_set_ne h4]; exact f.e4, f.sub, f.sm, f.fa, f.fb, by rw [List.length_set]; exact f.l11, f.kw⟩
theorem FD.put (f : FD mg H0 A0 Ks a bs A σ H env rows) {j : Nat} {b : Addr} {r : Drow} {kvs : List (List Key × V)} {k : List Key} {v : V} {d : D} (hb : bs[j]? = some b) (hr : rows[j]? = some r) (hH : H b = some (.dT kvs)) (rs : Reps mg A H (kvs.map (·.2)) r.2) (rk : r.1 = kvs.map fun p => .tup (p.1.map kD)) (rv : Rep mg A H v d) :
    FD mg H0 A0 Ks a bs A σ (upd H b (.dT (L2.putK kvs k v))) env (rows.set j (dput r.1 r.2 (.tup (k.map kD)) d)) := by
  have hbA := (f.t.row j b r hb hr).1
  have kp : Keep A H (upd H b (.dT (L2.putK kvs k v))) := keep_outD hbA hH
  refine ⟨⟨f.vr.len, fun i d' e => ?_, f.vr.pl⟩, fun p hp => tabS_upd hH trivial (f.tb p hp), f.t.put hb hr hH rs rk rv, f.s4, f.e4, f.sub, f.sm.put (f.fb b (List.mem_of_getElem? hb)) hH trivial, f.fa, f.fb, f.l11, fun p hp => ⟨(f.kw p hp).1, (f.kw p hp).2.trans (kp.sub (f.kw p hp).1)⟩⟩
  obtain ⟨w, h1, h2⟩ := f.vr.vals i _ e
  exact ⟨w, h1, h2.mono (fun _ h => h) kp⟩
theorem FD.more {P : Addr → Prop} (f : FD mg H0 A0 Ks a bs A σ H env rows) (h : ∀ x, P x → A x) : FD mg H0 A0 ((P, H) :: Ks) a bs A σ H env rows := ⟨f.vr, f.tb, f.t, f.s4, f.e4, f.sub, f.sm, f.fa, f.fb, f.l11, fun p hp => by
  rcases List.mem_cons.mp hp with rfl | hp
  · exact ⟨h, keepRefl⟩
  · exact f.kw p hp⟩
end
end PV

namespace PV
variable [LT] [RT]
open PySem PySem.Spec PyProof.Rows L2
end PV

namespace PV
variable [LT] [RT]
open PySem PySem.Spec PyProof.Rows L2
end PV

namespace PV
variable [LT] [RT]
open PySem PySem.Spec PyProof.Rows L2
end PV

namespace PV
variable [LT] [RT]
open PySem PySem.Spec PyProof.Rows L2
end PV

namespace PV
variable [LT] [RT]
open PySem PySem.Spec PyProof.Rows L2
end PV

namespace PV
variable [LT] [RT]
open PySem PySem.Spec PyProof.Rows L2
def spCpM (mg : Str → Option Value) (c f g h c2 k : Str) : Sp := fun vs H Q _ => ∃ (x dx C p y C2 dy : Addr) (fs2 : List (Str × V)) (t : V) (ws : List V), vs = [.ref x, .ref y, .ref p] ∧ H x = some (.ins C dx []) ∧ mg c = some (.ref C) ∧ p ≠ x ∧ H p = some (.lst ws) ∧ y ≠ x ∧ H y = some (.ins C2 dy fs2) ∧ mg c2 = some (.ref C2) ∧ fs2.lookup k = some t ∧
  ∀ q, q ≠ x → H q = none → Q .non (upd (upd (upd (upd H x (.ins C dx [(f, .ref y)])) q (.lst ws)) x (.ins C dx [(f, .ref y), (g, .ref q)])) x (.ins C dx [(f, .ref y), (g, .ref q), (h, t)]))
structure CopyOkM (P : Program) (w : World) (K : PySem.W.Frag) (mg : Str → Option Value) (base : Heap) (k : Nat) (c f g h c2 k2 : Str) : Prop where
  ex : ∃ C fa fd ps, FnOk P w K mg base CX0 k fa fd ps (spCpM mg c f g h c2 k2) ∧ mg c = some (.ref C) ∧ Mk K C fa ∧ Binds K fd ps []
end PV

namespace PV
variable [LT] [RT]
open PySem PySem.Spec PyProof.Rows L2
end PV

namespace PV
variable [LT] [RT]
open PySem PySem.Spec PyProof.Rows L2
end PV

namespace PV
variable [LT] [RT]
open PySem PySem.Spec PyProof.Rows L2
end PV

namespace PV
variable [LT] [RT]
open PySem PySem.Spec PyProof.Rows L2
end PV

namespace PV
variable [LT] [RT]
open PySem PySem.Spec PyProof.Rows L2
section
variable {K : PySem.W.Frag} {mg : Str → Option Value} {B : Bs} {O : Nat → Option Addr} {env : DEnv} {σ : L2.St} {H : Hp} {d : Addr} {kvs : List (List Key × V)}
structure LockOk (B : Bs) (d : Addr) : Prop where
  at_ : ∀ o, B.H0 d = some o → (∀ ps, o ≠ .tbl ps) → ∃ k, o = .dT k
  tb_ : ∀ p ∈ LT.T, p.1 ≠ d
end
end PV

namespace PV
variable [LT] [RT]
open PySem PySem.Spec PyProof.Rows L2
end PV

namespace PV
variable [LT] [RT]
open PySem PySem.Spec PyProof.Rows L2
structure EqSep (e z TI TO i1 i2 : Addr) : Prop where
  all : e ≠ z ∧ e ≠ TI ∧ e ≠ TO ∧ e ≠ i1 ∧ e ≠ i2
end PV

namespace PV
variable [LT] [RT]
open PySem PySem.Spec PyProof.Rows L2
end PV

namespace PV
variable [LT] [RT]
open PySem PySem.Spec PyProof.Rows L2
def Ee := DEnv → Option (D × DEnv)
def setEe (i : Nat) (a : Ee) : Sx := fun e => (a e).map fun p => .nx (p.2.set i (.val p.1))
section
variable {K : PySem.W.Frag} {mg : Str → Option Value} {B : Bs} {H H' H1 H2 : Hp} {O O' : Nat → Option Addr} {σ : L2.St} {env : DEnv} {i : Nat}
def tEE (K : PySem.W.Frag) (mg : Str → Option Value) (de : Ee) : TE := fun σ H Q => ∃ B O env d env', ERel K mg B O σ H env ∧ de env = some (d, env') ∧ ∀ v H', ERel K mg B O σ H' env' → Fm O H O H' → Rep mg (Lv B O false) H' v d → Q v H'
end
section
variable {X : Cx} {τ : Bool}
abbrev EE (X : Cx) (e : Expr) (de : Ee) : Prop := PE X e (tEE X.K X.mg de)
theorem s_setEe {i : Nat} {x : Str} {e : Expr} {de : Ee} {pos pos' : Pos} (hN : X.N.Nodup) (he : EE X e de) (hi : X.N[i]? = some x := by rfl) (hx : Loc X.env.scope x := by first | exact Or.inl rfl | exact Or.inr rfl) (hs : swapsWith e (some (.Name x pos')) pos.line X.env = pure false := by rfl) (hf : X.fn x = true ∨ X.env.scope.names.lookup x = some .local := by first | exact .inl rfl | exact .inr rfl | assumption) :
    SS X (.Assign [.Name x pos'] e pos) (setEe i de) := (ps_set hN hi hx he hs hf).weak fun D σ H ⟨B, O, env, r, rl, h1, q⟩ => by
  obtain ⟨⟨d, e1⟩, hd, h2⟩ := Option.map_eq_some_iff.mp h1
  cases h2
  exact ⟨B, O, env, d, e1, rl, hd, fun v H1 r1 f1 rv => q _ H1 _ (ERel.set r1 rv) (f1.trans (Fm.of_same (Same.refl H1)).off)⟩
end
end PV

namespace PV
variable [LT] [RT]
open PySem PySem.Spec PyProof.Rows L2
def spS (mg : Str → Option Value) (j : Nat) (F : Fn) : Sp := fun vs H Q _ => ∃ (A : Addr → Prop) (vs1 vs2 : List V) (n : Addr) (xs ys : List D) (dn r dn' : D), vs = vs1 ++ .ref n :: vs2 ∧ vs1.length = j ∧ ¬ A n ∧ (∀ a, H a = none → A a) ∧ LamX.Tabs LT.T H ∧ Reps mg A H vs1 xs ∧ Reps mg A H vs2 ys ∧ Own mg A H n dn ∧ F (xs ++ dn :: ys) = some (.tup [r, dn']) ∧
  ∀ v H', SameN n H H' → Rep mg A H' v r → Own mg A H' n dn' → Q v H'
section
variable {P : Program} {w : World} {K : PySem.W.Frag} {mg : Str → Option Value} {base : Heap}
structure CallS (P : Program) (w : World) (K : PySem.W.Frag) (mg : Str → Option Value) (base : Heap) (k : Nat) (x : Str) (j : Nat) (F : Fn) : Prop where
  ex : ∃ f fd ps, FnOk P w K mg base CX0 k f fd ps (spS mg j F) ∧ mg x = some (.ref f) ∧ PySem.W.keepIn K (.ref f) = true ∧ Binds K fd ps []
theorem CallS.up {j k l : Nat} {x : Str} {F : Fn} (c : CallS P w K mg base j x l F) (h : j ≤ k) : CallS P w K mg base k x l F :=
  let ⟨f, fd, ps, a, b, c, d⟩ := c.ex; ⟨f, fd, ps, a.mono h, b, c, d⟩
end
end PV

namespace PV
variable [LT] [RT]
open PySem PySem.Spec PyProof.Rows L2
end PV

namespace PV
variable [LT] [RT]
open PySem PySem.Spec PyProof.Rows L2
end PV

namespace PV
variable [LT] [RT]
open PySem PySem.Spec PyProof.Rows L2
section
variable {P : Program} {w : World} {K : PySem.W.Frag} {mg : Str → Option Value} {base : Heap}
structure MethS (P : Program) (w : World) (K : PySem.W.Frag) (mg : Str → Option Value) (base : Heap) (k : Nat) (c m : Str) (F : Fn) : Prop where
  ex : ∃ C f fd ps, FnOk P w K mg base CX0 k f fd ps (spS mg 0 F) ∧ mg c = some (.ref C) ∧ Cls K C ∧ Meth K C m f ∧ Binds K fd ps []
theorem MethS.up {j k : Nat} {c m : Str} {F : Fn} (g : MethS P w K mg base j c m F) (h : j ≤ k) : MethS P w K mg base k c m F :=
  let ⟨C, f, fd, ps, a, b, d⟩ := g.ex; ⟨C, f, fd, ps, a.mono h, b, d⟩
end
end PV

namespace PV
variable [LT] [RT]
open PySem PySem.Spec PyProof.Rows L2
end PV

namespace PV
variable [LT] [RT]
open PySem PySem.Spec PyProof.Rows L2
end PV

namespace PV
variable [LT] [RT]
open PySem PySem.Spec PyProof.Rows L2
end PV

namespace PV
variable [LT] [RT]
open PySem PySem.Spec PyProof.Rows L2
end PV

namespace PV
variable [LT] [RT]
open PySem PySem.Spec PyProof.Rows L2
end PV

namespace PV
variable [LT] [RT]
open PySem PySem.Spec PyProof.Rows L2
section
variable {X : Cx} {τ : Bool}
theorem pss_never {sts : List Stmt} : PSs X sts (fun _ _ _ => False) := ⟨fun pins s σ H D I h => h.elim⟩
end
end PV

namespace PV
variable [LT] [RT]
open PySem PySem.Spec PyProof.Rows L2
end PV

namespace PV
variable [LT] [RT]
open PySem PySem.Spec PyProof.Rows L2
def tR (K : PySem.W.Frag) (mg : Str → Option Value) (W : WX) (ce : Value) (g : DEnv → Bool) : TS := fun D σ H => ∃ B O env, ERel K mg B O σ H env ∧ g env = true ∧ ∀ σ' H' O' env', ERel K mg B O' σ' H' env' → Fm O H O' H' → W ce none σ' H'
abbrev SR (X : Cx) (W : WX) (ce : Value) (s : Stmt) (g : DEnv → Bool) : Prop := PS X s (tR X.K X.mg W ce g)
abbrev SRs (X : Cx) (W : WX) (ce : Value) (s : List Stmt) (g : DEnv → Bool) : Prop := PSs X s (tR X.K X.mg W ce g)
def gIf (t : Tx) (a b : DEnv → Bool) : DEnv → Bool := fun e => match t e with
  | some true => a e
  | some false => b e
  | none => false
def gSq (a : DEnv → Bool) (f : Sx) (b : DEnv → Bool) : DEnv → Bool := fun e => a e || match f e with
  | some (.nx e') => b e'
  | _ => false
def gY : DEnv → Bool := fun _ => true
def gN : DEnv → Bool := fun _ => false
def excB (x : Str) (K : PySem.W.Frag) : Bool := PySem.W.excIn K (He.ga K x) [.type "ValueError", .type "Exception", .type "BaseException", .type "object"] "ValueError.__new__" && PySem.W.keepIn K (.ref (He.ga K x)) && decide (PySem.W.subIn K (.ref (He.ga K x)) (.type "BaseException") = some true) && (PySem.W.typeIn K (.ref (He.ga K x)) == some (.type "type"))
section
variable {X : Cx} {τ : Bool} {W : WX} {ce : Value}
theorem excB_ok {x : Str} {K : PySem.W.Frag} (h : excB x K = true) : PySem.W.excIn K (He.ga K x) [.type "ValueError", .type "Exception", .type "BaseException", .type "object"] "ValueError.__new__" = true ∧ PySem.W.keepIn K (.ref (He.ga K x)) = true ∧ PySem.W.subIn K (.ref (He.ga K x)) (.type "BaseException") = some true ∧ PySem.W.typeIn K (.ref (He.ga K x)) = some (.type "type") := by
  unfold excB at h
  simp only [Bool.and_eq_true, decide_eq_true_eq] at h
  exact ⟨h.1.1.1, h.1.1.2, h.1.2, eq_of_beq h.2⟩
theorem sr_no {s : Stmt} : SR X W ce s gN := ⟨fun pins s σ H D I ⟨B, O, env, r, g, q⟩ => nomatch g⟩
theorem srs_no {s : List Stmt} : SRs X W ce s gN := ⟨fun pins s σ H D I ⟨B, O, env, r, g, q⟩ => nomatch g⟩
theorem sr_raise {x m : Str} {j : Nat} {p p2 pos pos' : Pos} (hb : excB x X.K = true) (hm : X.mg x = some (.ref (He.ga X.K x))) (tk : Takes X W) (hc : X.calm = true := by rfl) (hg : Gl X x := by rfl) (hd : (x == ("__debug__" : Str)) = false := by decide) :
    SR X W (.ref (He.ga X.K x)) (.Raise (some (.Call (.Name x p) [.Constant (.str m) j p2] [] pos)) none pos') gY := by
  obtain ⟨h1, h2, h3, h4⟩ := excB_ok hb
  exact (ps_raise hc tk (pmk_own PySem.F.excBase_ValueError h1 hm h2 (raises_own h3 h4) hg hd)).weak fun D σ H ⟨B, O, env, r, _, q⟩ => q σ H O env r (Fm.of_same (Same.refl H))
theorem srs_one {s : Stmt} {g : DEnv → Bool} (h : SR X W ce s g) : SRs X W ce [s] g := pss_one h
theorem sr_if {c : Expr} {a b : List Stmt} {t : Tx} {ga gb : DEnv → Bool} {pos : Pos} (hc : ST X c t) (ha : SRs X W ce a ga) (hb : SRs X W ce b gb) : SR X W ce (.If c a b pos) (gIf t ga gb) := (ps_if hc ha hb).weak fun D σ H ⟨B, O, env, r, h1, q⟩ => by
  unfold gIf at h1
  cases ht : t env with
  | none => rw [ht] at h1; cases h1
  | some d =>
    rw [ht] at h1
    refine ⟨B, O, env, d, r, ht, fun H' s => ?_⟩
    cases d with
    | true => exact iteT ⟨B, O, env, r.heap s, h1, fun σ' H2 O' env' r' f' => q σ' H2 O' env' r' ((Fm.of_same s).trans f')⟩
    | false => exact iteF ⟨B, O, env, r.heap s, h1, fun σ' H2 O' env' r' f' => q σ' H2 O' env' r' ((Fm.of_same s).trans f')⟩
theorem PS.or {s : Stmt} {t u : TS} (h1 : PS X s t) (h2 : PS X s u) : PS X s (fun D σ H => t D σ H ∨ u D σ H) := ⟨fun pins s σ H D I h => h.elim (h1.run pins s σ H D I) (h2.run pins s σ H D I)⟩
theorem srs_cons {s : Stmt} {ss : List Stmt} {f : Sx} {g1 g2 : DEnv → Bool} (h1 : SS X s f) (r1 : SR X W ce s g1) (r2 : SRs X W ce ss g2) : SRs X W ce (s :: ss) (gSq g1 f g2) := (pss_cons (PS.or h1 r1) r2).weak fun D σ H ⟨B, O, env, r, hg, q⟩ => by
  unfold gSq at hg
  rw [Bool.or_eq_true] at hg
  rcases hg with hg | hg
  · exact .inr ⟨B, O, env, r, hg, q⟩
  · split at hg
    · rename_i e' he
      exact .inl ⟨B, O, env, .nx e', r, he, fun σ' H' O' r' f' => ⟨B, O', e', r', hg, fun σ2 H2 O2 env2 r2 f2 => q σ2 H2 O2 env2 r2 (f'.trans f2)⟩⟩
    · cases hg
end
def spIR (mg : Str → Option Value) (c : Str) (ce : Value) (g : List D → Bool) : Sp := fun vs H _ E => ∃ (x dx C : Addr) (us : List V) (A : Addr → Prop) (ds : List D), vs = .ref x :: us ∧ H x = some (.ins C dx []) ∧ mg c = some (.ref C) ∧ Fr A H ∧
  Reps mg (fun a => A a ∧ a ≠ x) H us ds ∧ g ds = true ∧ ∀ H', SameX x H H' → E ce none H'
def iniG (c : Str) (m n : Nat) (g : DEnv → Bool) : List D → Bool := fun ds => decide (ds.length + 1 = m) && g (DSlot.slf (.ins c [] []) :: (ds.map DSlot.val ++ List.replicate (n - m) DSlot.no))
section
variable {P : Program} {w : World} {K : PySem.W.Frag} {mg : Str → Option Value} {base : Heap}
theorem ini_raise {x qual c : Str} {args : Arguments} {body : List Stmt} {sc : Scope} {f : Addr} {fd : FuncData} {N ps : List Str} {k : Nat} {gb : DEnv → Bool} {ce : Value} (F : FunD K x qual args body sc [] [] f fd) (S : FnScope N ps sc)
    (hb : ∀ (cdv : Value) (A : Around) (outer : List Env) (s : Shared) (H : Hp) (E : XK), Room k (A.deeper (envOfC qual sc s.heap.objs.size f cdv)) → PSs (cxOf (L2.CX P w) P w K mg base N qual sc f cdv A outer s H E) body (tR K mg (fun cls d _ H' => E cls d H') ce gb)) :
    FnOk P w K mg base (L2.CX P w) (k + 1) f fd ps (spIR mg c ce (iniG c ps.length N.length gb)) := by
  have hpl : ps.length ≤ N.length := by have := congrArg List.length S.pre; rw [List.length_take] at this; omega
  refine F.ok S (fun vs H Q E h => ?_) fun cdv A outer s H vs Q E hr h => ?_
  · obtain ⟨a, dx, C, us, A, ds, rfl, _, _, _, r, e, _⟩ := h
    unfold iniG at e
    rw [Bool.and_eq_true, decide_eq_true_eq] at e
    rw [List.length_cons, r.len, e.1]
  · refine ⟨_, hb cdv A outer s H E hr, ?_⟩
    obtain ⟨a, dx, C, us, A1, ds, rfl, hx, hC, fr, r, e, q⟩ := h
    unfold iniG at e
    rw [Bool.and_eq_true, decide_eq_true_eq] at e
    obtain ⟨hl, h1⟩ := e
    have own : ∀ (i : Nat) (x : DSlot), (ds.map DSlot.val ++ List.replicate (N.length - ps.length) DSlot.no)[i]? = some x → (∃ d, x = .val d ∧ ds[i]? = some d ∧ i < ds.length) ∨ x = .no := fun i x e => by
      by_cases hi : i < ds.length
      · rw [List.getElem?_append_left (by simpa using hi), List.getElem?_map, List.getElem?_eq_getElem hi] at e
        exact .inl ⟨ds[i], (Option.some.inj e).symm, List.getElem?_eq_getElem hi, hi⟩
      · rw [List.getElem?_append_right (by simpa using hi), List.getElem?_replicate] at e
        split at e
        · exact .inr (Option.some.inj e).symm
        · cases e
    have tb0 : LamX.Tabs LT.T (fun b => if b = a then none else H b) := fun p hp => by
      obtain ⟨ps, h1, h2, h3⟩ := fr.tb p hp
      have ne : p.1 ≠ a := fun e => by rw [e, hx] at h1; cases h1
      refine ⟨ps, by show (if p.1 = a then none else H p.1) = _; rw [if_neg ne]; exact h1, h2, fun pos cv hc => ?_⟩
      obtain ⟨c, e1, e2⟩ := h3 pos cv hc
      have nc : c ≠ a := fun e => by rw [e, hx] at e2; cases e2
      exact ⟨c, e1, by show (if c = a then none else H c) = _; rw [if_neg nc]; exact e2⟩
    have rl : ERel K mg ⟨fun b => if b = a then none else H b, fun b => A1 b ∧ b ≠ a, a, tb0⟩ (fun j => if j = 0 then some a else none) (L2.start N (.ref a :: us)) H (DSlot.slf (.ins c [] []) :: (ds.map DSlot.val ++ List.replicate (N.length - ps.length) DSlot.no)) := by
      refine ⟨?_, Same.of fun b o e => ?_, fun i d e => ?_, fun i d e => ?_, fun i d e => ?_, fun i j p ha hb => ?_, fun i p ha => ?_, fun i p ha => ?_, ⟨1, fun i hi => if_neg (by omega)⟩, fun i p ha hi => ?_⟩
      · unfold L2.start
        have hul : us.length = ds.length := r.len
        simp [hul]
        omega
      · dsimp only at e
        split at e
        · cases e
        · exact e
      · cases i with
        | zero => cases e
        | succ i =>
          rcases own i _ (by simpa using e) with ⟨d', e2, e3, hi⟩ | e2
          · cases e2
            obtain ⟨v, g1, g2⟩ := r.get e3
            refine ⟨v, ?_, g2.mono (fun b hb => ⟨.inl hb, .inr fun j z => ?_⟩) keepRefl⟩
            · unfold L2.start
              rw [List.getElem?_append_left (by simp [r.len]; omega), List.getElem?_map]
              simp [g1]
            · dsimp only at z
              split at z
              · cases z; exact hb.2 rfl
              · cases z
          · cases e2
      · cases i with
        | zero => cases e
        | succ i => rcases own i _ (by simpa using e) with ⟨d', e2, _⟩ | e2 <;> cases e2
      · cases i with
        | zero =>
          cases e
          refine ⟨rfl, rfl, ?_⟩
          have : Own mg (Lv ⟨fun b => if b = a then none else H b, fun b => A1 b ∧ b ≠ a, a, tb0⟩ (fun j => if j = 0 then some a else none) false) H a (.ins c (([] : List (Str × V)).map (·.1)) []) := .ins hx hC .nil
          exact this
        | succ i => rcases own i _ (by simpa using e) with ⟨d', e2, _⟩ | e2 <;> cases e2
      · (try dsimp only at ha hb)
        split at ha <;> split at hb <;> first | omega | (cases ha; done) | (cases hb; done)
      · (try dsimp only at ha)
        split at ha
        · cases ha; exact ⟨_, hx, trivial⟩
        · cases ha
      · (try dsimp only at ha)
        split at ha
        · cases ha; simp
        · cases ha
      · (try dsimp only at ha)
        split at ha
        · rename_i hi0
          subst hi0
          exact ⟨_, .inr rfl⟩
        · cases ha
    refine ⟨_, _, _, rl, h1, fun σ' H' O' env' rl' f' => q H' ⟨fun b o hb e _ => rl'.same b o (by dsimp only; rw [if_neg hb]; exact e), f'.tab, f'.dom⟩⟩
end
end PV

namespace PV
variable [LT] [RT]
open PySem PySem.Spec PyProof.Rows L2
section
variable {X : Cx} {τ : Bool} {W : WX} {ce : Value}
theorem run_makeS {CX : CXT} {k : Nat} {f C : Addr} {fd : FuncData} {ps : List Str} {sp : Sp} {E : L2.St → XK} {pins : List (Addr × Obj)} {σ : L2.St} {H : Hp} {s : Shared} {Q : VK} {us : List Value} {vs dvs : List V} {ds : List Value} (M : Mk X.K C f) (F : FnOk X.prog X.w X.K X.mg X.base CX k f fd ps sp) (hr : Room (k + 1) X.A) (hb : Binds X.K fd ps ds) (hd : Vals dvs ds)
    (hx : PassesAt CX X σ (E σ)) (I : Inv X pins σ H s) (r : Vals vs us)
    (h : ∀ x dx, H x = none → H dx = none → dx ≠ x → sp (.ref x :: (vs ++ dvs)) (upd (upd H dx (.own x)) x (.ins C dx [])) (fun v H2 => v = .non ∧ Q (.ref x) H2) (E σ)) :
    wpAny (model X.prog X.w) X.A (call (.ref C) us) (EP X pins σ Q) X.xe s := by
  have hq := h (s.heap.objs.size + 1) s.heap.objs.size (I.hok.fresh (Nat.le_succ _)) (I.hok.fresh (Nat.le_refl _)) (Nat.ne_of_lt (Nat.lt_succ_self _))
  have I2 := Inv.made (C := C) I
  have r2 : Vals (V.ref (s.heap.objs.size + 1) :: (vs ++ dvs)) (Value.ref (s.heap.objs.size + 1) :: (us ++ ds)) := .cons rfl (r.append hd)
  have hl : (Value.ref (s.heap.objs.size + 1) :: us ++ ds).length = ps.length := by
    have e := r2.length
    rw [F.len _ _ _ _ hq] at e
    exact e.symm
  refine wpAny_call (make_map (f := f) I.kIn M.makes M.init (beq_iff_eq.mp M.fn) (codeAny_mono (F.run _ X.stack _ _ ⟨Value.ref (s.heap.objs.size + 1) :: us, []⟩ (Value.ref (s.heap.objs.size + 1) :: (us ++ ds)) _ _ (E σ) (hr.make C us [])
    (I2.env0.make C us []) (hb _ (Value.ref (s.heap.objs.size + 1) :: us) I2.kIn hl) r2 hq) fun r s' hq' => ?_))
  cases r with
  | error e => exact hx pins _ _ e s' I2 hq'
  | ok fl =>
    cases fl with
    | ret u =>
      obtain ⟨v, H', I3, rv, ev, q3⟩ := I2.after hq'
      subst ev
      exact ⟨rv, ⟨V.ref (s.heap.objs.size + 1), H', I3, rfl, q3⟩⟩
    | next => exact False.elim hq'
    | brk => exact False.elim hq'
    | cont => exact False.elim hq'
def tER (K : PySem.W.Frag) (mg : Str → Option Value) (W : WX) (ce : Value) (g : DEnv → Bool) : L2.St → Hp → Prop := fun σ H => ∃ B O env, ERel K mg B O σ H env ∧ g env = true ∧ ∀ H', Same H H' → W ce none σ H'
structure MakeR (P : Program) (w : World) (K : PySem.W.Frag) (mg : Str → Option Value) (base : Heap) (k : Nat) (c : Str) (ce : Value) (g : List D → Bool) : Prop where
  ex : ∃ C f fd ps, FnOk P w K mg base (L2.CX P w) k f fd ps (spIR mg c ce g) ∧ mg c = some (.ref C) ∧ Mk K C f ∧ Binds K fd ps []
def gAr (g : List D → Bool) (da : Ax) : DEnv → Bool := fun e => match da e with
  | some ds => g ds
  | none => false
theorem er_mak {k : Nat} {c : Str} {g : List D → Bool} {e : Expr} {es : List Expr} {da : Ax} {p pos : Pos} (m : MakeR X.prog X.w X.K X.mg X.base k c ce g) (hr : Room (k + 1) X.A) (tk : Takes X W) (ha : SA X τ (e :: es) da) (hg : Gl X c := by rfl)
    (hdb : (c == ("__debug__" : Str)) = false := by decide) (he : starEach (e :: es) X.env = (false, eval e X.env) :: starEach es X.env := by rfl) (hpl : (backTo pos (starEach es X.env)).any (·.1) = false := by rfl) :
    PE X (.Call (.Name c p) (e :: es) [] pos) (fun σ H _ => tER X.K X.mg W ce (gAr g da) σ H) := by
  obtain ⟨C, f, fd, ps, G, hm, M, hb⟩ := m.ex
  refine ⟨fun pins s σ H Q I ⟨B, O, env, r, hgs, q⟩ => ?_⟩
  unfold gAr at hgs
  cases hd : da env with
  | none => rw [hd] at hgs; cases hgs
  | some ds =>
    rw [hd] at hgs
    refine wpAny_Call_Name_kw (ld_glob I hg hm ?_ hdb)
    refine PySem.W.callWith_K (h₀ := X.base) I.ok.mod.kin M.kp (thn (ha.run pos pins s σ H (fun vs H1 => Same H H1 ∧ Reps X.mg (Lv B O τ) H1 vs ds) I ⟨B, O, env, ds, r, hd, fun vs H1 s1 r1 => ⟨s1, r1⟩⟩) fun us s1 ⟨vs, H1, I1, rv, sm, r1⟩ => ⟨I1.kIn, ?_⟩) he hpl
    refine run_makeS (E := WE W) M G hr hb .nil (passAt tk σ) I1 rv fun x dx hx hdx hne => ?_
    have s0 : Same H1 (upd (upd H1 dx (.own x)) x (.ins C dx [])) := Same.of fun b o z => by
      rw [upd_ne (ne_of_none z hx), upd_ne (ne_of_none z hdx)]; exact z
    have fr := (r.heap sm).fr (τ := τ)
    exact ⟨x, dx, C, vs, Lv B O τ, ds, by rw [List.append_nil], upd_same, hm, ⟨fun a ha => fr a (Same.free s0 ha), s0.tabs fr.tb⟩, (Reps.ne hx r1).same s0, hgs, fun H' sx => q H' (sm.trans (sx.after s0 hx))⟩
theorem sr_set {i : Nat} {x : Str} {e : Expr} {g : DEnv → Bool} {pos pos' : Pos} (hN : X.N.Nodup) (he : PE X e (fun σ H _ => tER X.K X.mg W ce g σ H)) (hi : X.N[i]? = some x := by rfl) (hx : Loc X.env.scope x := by first | exact Or.inl rfl | exact Or.inr rfl) (hs : swapsWith e (some (.Name x pos')) pos.line X.env = pure false := by rfl) (hf : X.fn x = true ∨ X.env.scope.names.lookup x = some .local := by first | exact .inl rfl | exact .inr rfl | assumption) :
    PS X (.Assign [.Name x pos'] e pos) (fun _ σ H => tER X.K X.mg W ce g σ H) := (ps_set hN hi hx he hs hf).weak fun D σ H h => h
end
end PV

namespace PV
variable [LT] [RT]
open PySem PySem.Spec PyProof.Rows L2
def tryC (j : Nat) (g : DEnv → Bool) (f : Sx) : Sx := fun env => if g env = true then (if j < env.length then some (.ret (.bl false)) else none) else f env
def excQ (ec ey : Str) (K : PySem.W.Frag) : Bool := decide (PySem.W.exmOne K (.ref (He.ga K ec)) (.ref (He.ga K ec)) = some true) && (decide (PySem.W.kitOne K (.ref (He.ga K ec)) (.ref (He.ga K ey)) = some true) && (decide (PySem.W.kitOne K (.ref (He.ga K ec)) (.type "ValueError") = some true) &&
  (He.eqO (PySem.W.findIn K (.ref (He.ga K ec)) "__getattribute__") (some (some (.builtin "BaseException.__getattribute__"))) && (He.eqO (PySem.W.findIn K (.ref (He.ga K ec)) "__getattr__") (some none) && (decide (PySem.W.subIn K (.ref (He.ga K ec)) (.type "BaseException") = some true) && (PySem.W.hasDictIn K (He.ga K ec) &&
  (He.eqO (PySem.W.findIn K (.ref (He.ga K ec)) "__class__") (some (some (.builtin "object.__class__"))) && (He.eqO (PySem.W.specialIn K (.builtin "object.__class__") "__get__") (some (some (.builtin "getset_descriptor.__get__"))) && (decide (PySem.W.takesIn K (.builtin "object.__class__") = some true) && decide (PySem.W.mroIn K (He.ga K ec) (.type "object") = some true))))))))))
theorem excQ_ok {ec ey : Str} {K : PySem.W.Frag} (h : excQ ec ey K = true) : PySem.W.exmOne K (.ref (He.ga K ec)) (.ref (He.ga K ec)) = some true ∧ PySem.W.kitOne K (.ref (He.ga K ec)) (.ref (He.ga K ey)) = some true ∧ PySem.W.kitOne K (.ref (He.ga K ec)) (.type "ValueError") = some true ∧ ExcC K (He.ga K ec) := by
  unfold excQ at h
  simp only [Bool.and_eq_true, decide_eq_true_eq] at h
  obtain ⟨h1, h2, h3, h4, h5, h6, h7, h8, h9, h10, h11⟩ := h
  exact ⟨h1, h2, h3, ⟨He.eqO_ok h4, He.eqO_ok h5, h6, h7, He.eqO_ok h8, He.eqO_ok h9, h10, h11⟩⟩
section
variable {X : Cx}
theorem is_err {a : Addr} {oe : Obj} {pn : List (Addr × Obj)} {n y : Str} {j : Nat} {v : V} {cv : Value} {D0 : Addr} {p1 p2 p3 p4 : Pos} (C : ExcC X.K D0) (hz : Zc (.ref D0) none oe) (hf : ∃ vs, oe.data = .fields vs) (hk : PySem.W.kitOne X.K (.ref D0) cv = some true) (hcv : ∀ u, RelV v u → u = cv)
    (hy : PE (X.suite a ((a, oe) :: pn)) (.Name y p3) (tC v)) (hm : X.mg "isinstance" = none) (hg : Gl X "isinstance") (hN : X.N[j]? = some n) (hv : Vis X.env.scope n) (hd : (n == ("__debug__" : Str)) = false) (hcd : (n == ("__classdict__" : Str)) = false)
    (n1 : starEach [.Name n p2, .Name y p3] X.env = (false, eval (.Name n p2) X.env) :: starEach [.Name y p3] X.env) (n2 : starEach [.Name y p3] X.env = (false, eval (.Name y p3) X.env) :: starEach [] X.env) (hpl : (backTo p4 (starEach [.Name y p3] X.env)).any (·.1) = false) :
    PE (X.suite a ((a, oe) :: pn)) (.Call (.Name "isinstance" p1) [.Name n p2, .Name y p3] [] p4) (fun σ H Q => σ[j]? = some (some (.ref a)) ∧ Q (.bl true) H) :=
  (pe_callB (call_isE C hz hf) hg hm boot_isinstance (pa_cons (pe_var (i := j) hN hv hd hcd) (pa_cons hy pa_nil n2) n1) (by decide) (by decide) n1 hpl).weak fun σ H Q ⟨e, q⟩ => by
  refine ⟨_, e, ?_⟩
  exact ⟨v, cv, true, rfl, hcv, hk, q⟩
theorem s_tryC {j : Nat} {n ec ey : Str} {st : Stmt} {f : Sx} {g : DEnv → Bool} {np p1 p2 p3 p4 p5 p6 p7 p8 p9 p10 p11 p12 p13 pos : Pos} (hq : excQ ec ey X.K = true) (hm : X.mg ec = some (.ref (He.ga X.K ec))) (hm2 : X.mg ey = some (.ref (He.ga X.K ey))) (hmi : X.mg "isinstance" = none) (hmv : X.mg "ValueError" = none)
    (hb1 : ∀ (pn : List (Addr × Obj)) (xe : Value → Shared → Prop), SS (X.tr pn xe) st f) (hb2 : ∀ (W : WX) (pn : List (Addr × Obj)) (xe : Value → Shared → Prop), Takes (X.tr pn xe) W → PS (X.tr pn xe) st (fun _ σ H => tER X.K X.mg W (.ref (He.ga X.K ec)) g σ H))
    (hN : X.N.Nodup) (hj : X.N[j]? = some n := by rfl) (hln : X.env.kindOf n = some .local := by rfl) (hv : Vis X.env.scope n := by first | exact Or.inl rfl | exact Or.inr (Or.inl rfl) | exact Or.inr (Or.inr rfl)) (hd : (n == ("__debug__" : Str)) = false := by decide) (hcd : (n == ("__classdict__" : Str)) = false := by decide)
    (hge : Gl X ec := by rfl) (hde : (ec == ("__debug__" : Str)) = false := by decide) (hgy : Gl X ey := by rfl) (hdy : (ey == ("__debug__" : Str)) = false := by decide) (hgi : Gl X "isinstance" := by rfl) (hgv : Gl X "ValueError" := by rfl)
    (hs : X.stack = X.env :: X.outer := by rfl) (hfr : X.env.frame = some X.env.locals := by rfl) (hn : RT.nw = false := by rfl)
    (n1 : starEach [.Name n p2, .Name ey p3] X.env = (false, eval (.Name n p2) X.env) :: starEach [.Name ey p3] X.env := by rfl) (n2 : starEach [.Name ey p3] X.env = (false, eval (.Name ey p3) X.env) :: starEach [] X.env := by rfl) (n3 : (backTo p4 (starEach [.Name ey p3] X.env)).any (·.1) = false := by rfl)
    (n4 : starEach [.Name n p7, .Name "ValueError" p8] X.env = (false, eval (.Name n p7) X.env) :: starEach [.Name "ValueError" p8] X.env := by rfl) (n5 : starEach [.Name "ValueError" p8] X.env = (false, eval (.Name "ValueError" p8) X.env) :: starEach [] X.env := by rfl) (n6 : (backTo p9 (starEach [.Name "ValueError" p8] X.env)).any (·.1) = false := by rfl) :
    SS X (.Try [st] [.ExceptHandler (some (.Name ec np)) (some n) [.Return (some (.BoolOp .Or [.UnaryOp .Not (.Call (.Name "isinstance" p1) [.Name n p2, .Name ey p3] [] p4) p5, .UnaryOp .Not (.Call (.Name "isinstance" p6) [.Name n p7, .Name "ValueError" p8] [] p9) p10] p11)) p12] p13] [] [] pos) (tryC j g f) := by
  obtain ⟨h1, h2, h3, C⟩ := excQ_ok hq
  refine (ps_try_as (i := j) (tb := fun W D σ H => tS X.K X.mg f D σ H ∨ tER X.K X.mg W (.ref (He.ga X.K ec)) g σ H) (ts := fun a cls d D σ H => cls = .ref (He.ga X.K ec) ∧ d = none ∧ σ[j]? = some (some (.ref a)) ∧ D.rt (.bl false) H) hs hfr hN hj hln ⟨hge, hde, .inl hm⟩ LamX.takes0
    (fun W pn xe tk _ => pss_one (PS.or (hb1 pn xe) (hb2 W pn xe tk))) (fun a oe cls d pn hz hfs => ⟨fun pins s σ H D I ⟨e1, e2, e3, e4⟩ => ?_⟩)).weak fun D σ H ⟨B, O, env, r, rl, h4, q⟩ => ?_
  · subst e1 e2
    refine (pss_one (ps_ret (pe_or (pe_not (is_err (v := .ref (He.ga X.K ey)) C hz hfs h2 (fun u hu => hu) (pe_glob (v := .ref (He.ga X.K ey)) hgy hm2 rfl hdy) hmi hgi hj hv hd hcd n1 n2 n3)) (pe_one (pe_not (is_err (v := .ty "ValueError") C hz hfs h3 (fun u hu => hu) (pe_bltn (v := .ty "ValueError") hgv hmv rfl rfl) hmi hgi hj hv hd hcd n4 n5 n6)))))).run pins s σ H D I ?_
    refine ⟨e3, true, rfl, false, rfl, ?_⟩
    rw [if_neg (by decide)]
    exact ⟨e3, true, rfl, e4⟩
  · unfold tryC at h4
    by_cases hgt : g env = true
    · rw [if_pos hgt] at h4
      split at h4
      · rename_i hlt
        cases h4
        refine .inr ⟨B, O, env, rl, hgt, fun H' sm => ⟨true, h1, fun _ a ha => ⟨rfl, rfl, ?_, ?_⟩, fun z => nomatch z⟩⟩
        · rw [List.getElem?_set_self (by rw [← rl.len]; exact hlt)]
        · exact q (.bl false) H' (rl.same.trans sm) (retP_of hn (.bl false))
      · cases h4
    · rw [if_neg hgt] at h4
      exact .inl ⟨B, O, env, r, rl, h4, q⟩
end
end PV

namespace PV
open PySem PySem.Spec PyProof.Rows L2
def topS (i : Nat) : Stmt := PySem.Challenge.pw_standingpowers_k01_numbers_names_and_spa.main.body.getD i (.Pass ⟨0, 0, 0, 0⟩)
def d0 : He.DefD := ⟨("_law_cell", none), "_law_cell", "_law_cell", defArgs (topS 17), defBody (topS 17), defScope (topS 17), [], []⟩
def d1 : He.DefD := ⟨("raised_number", none), "raised_number", "raised_number", defArgs (topS 11), defBody (topS 11), defScope (topS 11), [], []⟩
def d2 : He.DefD := ⟨("inverse", none), "inverse", "inverse", defArgs (topS 13), defBody (topS 13), defScope (topS 13), [], []⟩
def d3 : He.DefD := ⟨("_law_digits", none), "_law_digits", "_law_digits", defArgs (topS 18), defBody (topS 18), defScope (topS 18), [], []⟩
def d4 : He.DefD := ⟨("_law_word", none), "_law_word", "_law_word", defArgs (topS 19), defBody (topS 19), defScope (topS 19), [], []⟩
def d5 : He.DefD := ⟨("is_name", none), "is_name", "is_name", defArgs (topS 14), defBody (topS 14), defScope (topS 14), [], []⟩
def d6 : He.DefD := ⟨("_law_is_name", none), "_law_is_name", "_law_is_name", defArgs (topS 20), defBody (topS 20), defScope (topS 20), [], []⟩
def d7 : He.DefD := ⟨("Space", some "__init__"), "__init__", "Space.__init__", defArgs (inClass (topS 15) 0), defBody (inClass (topS 15) 0), defScope (inClass (topS 15) 0), [], []⟩
def d8 : He.DefD := ⟨("_law_told", none), "_law_told", "_law_told", defArgs (topS 22), defBody (topS 22), defScope (topS 22), [], []⟩
def d9 : He.DefD := ⟨("_law_makes", none), "_law_makes", "_law_makes", defArgs (topS 21), defBody (topS 21), defScope (topS 21), [], []⟩
def d10 : He.DefD := ⟨("law", none), "law", "law", defArgs (topS 23), defBody (topS 23), defScope (topS 23), [], []⟩
def fn : List He.DefD := [d0, d1, d2, d3, d4, d5, d6, d7, d8, d9, d10]
def fa0 : List He.Fa := [.free "int", .free "range", .free "isinstance", .free "bool", .free "len", .int "LONGEST_NAME" 12, .str "LETTERS" "abcdefghijklmnopqrstuvwxyz", .str "DIGITS" "0123456789", .free "all", .free "list", .glo "InvalidSpace", .glo "PowersError", .free "ValueError", .glo "Space", .cls "Space", .noat "Space" "prime"]
def fa1 : List He.Fa := [.noat "Space" "names", .noat "Space" "count", .glo "PRIMES", .int "MOST_NAMES" 8, .free "set", .glo "MOST_OF_PRIME", .glo "_law_cell", .glo "raised_number", .glo "inverse", .glo "_law_digits", .glo "_law_word", .glo "is_name", .glo "_law_is_name", .mkr "Space", .glo "_law_told", .glo "_law_makes"]
def fa2 : List He.Fa := [.glo "law"]
def fa : List He.Fa := fa0 ++ (fa1 ++ (fa2))
def exl : List (PySem.W.Frag → Bool) := [excQ "InvalidSpace" "PowersError", tupIB "PRIMES" [2, 3, 5, 7], tabIB "MOST_OF_PRIME" [(2, 8), (3, 5), (5, 3), (7, 2)], excB "InvalidSpace", noLst]
def loo0 : List PySem.Str := ["_wall", "__name__", "PowersError", "InvalidSpace", "PRIMES", "LETTERS", "DIGITS", "LONGEST_NAME", "MOST_NAMES", "MOST_OF_PRIME", "raised_number", "tuples_of", "inverse", "is_name", "Space", "_law_cell"]
def loo1 : List PySem.Str := ["_law_digits", "_law_word", "_law_is_name", "_law_makes", "_law_told"]
def loose : List PySem.Str := loo0 ++ loo1

end PV

namespace PV
open PySem PySem.Spec PyProof.Rows L2
abbrev R : PySem.W.OpenRow := PySem.W.OpenLaw.row PySem.Challenge.rw_standingpowers_k01_numbers_names_and_spa
abbrev hk : PySem.W.Hook := hookE 4 fa fn exl
def ob (s : PySem.W.SharedT) : He.AlD := obsEG 4 fa fn exl (HandSHeadRun.getT s)
theorem ob_eq (s : PySem.W.SharedT) : ob s = hk.obs s.abs := obsEG_eq (HandSHeadRun.getT_eq s)
theorem runT (w : World) : HandSHeadRun.RunEq R (PySem.W.view R.prog [23]) hk ob 5000 loose (w.withFollow "special-get-raises" true) := by
  intro os
  kernel_rfl
theorem runF (w : World) : HandSHeadRun.RunEq R (PySem.W.view R.prog [23]) hk ob 5000 loose (w.withFollow "special-get-raises" false) := by
  intro os
  kernel_rfl
theorem run (w : World) : HandSHeadRun.RunEq R (PySem.W.view R.prog [23]) hk ob 5000 loose w :=
  PySem.W.byRow2 "special-get-raises" (P := fun w => HandSHeadRun.RunEq R (PySem.W.view R.prog [23]) hk ob 5000 loose w) runF runT w
end PV

namespace PV
variable [LT] [RT]
open PySem PySem.Spec PyProof.Rows L2
section
variable {K : PySem.W.Frag} {mg : Str → Option Value} {B : Bs} {O : Nat → Option Addr} {σ : L2.St} {H H' : Hp} {env : DEnv} {i : Nat} {d d' : D}
theorem ERel.stepO {p : Addr} (r : ERel K mg B O σ H env) (hO : O i = some p) (hs : σ[i]? = some (some (.ref p))) (h0 : B.H0 p = none) (s : SameN p H H') (ow : Own mg (Lv B O false) H' p d') : ERel K mg B O σ H' (env.set i (.own d')) ∧ Fm O H O H' := by
  obtain ⟨o9, ho9, w9⟩ := own_wr ow
  obtain ⟨o1, ho1, w1⟩ := r.trk i _ hO
  have nl : ∀ a, Lv B O false a → a ≠ p := fun a h e => by
    subst e
    exact h.2.elim (fun z => Bool.noConfusion z) fun z => z i hO
  have nt : ∀ {a o}, H a = some o → ¬ Wr o → a ≠ p := fun {a o} h wr e => by
    subst e
    rw [ho1] at h
    cases h
    exact wr w1
  have kp : Keep (Lv B O false) H H' := by
    refine ⟨fun a u ha _ h => ?_, fun a C dx fs ha h => s.stay _ _ (nl a ha) h, fun a xs ha h => s.stay _ _ (nl a ha) h, fun a xs h => s.stay _ _ (nt h fun z => z) h, fun a ob xs h => s.stay _ _ (nt h fun z => z) h⟩
    rcases h with h | ⟨ob, h⟩
    · exact .inl (s.stay _ _ (nl a ha) h)
    · exact .inr ⟨ob, s.stay _ _ (nl a ha) h⟩
  refine ⟨⟨by simp [r.len], ⟨fun b o e _ => ?_, fun t => s.tab (r.same.tab t), fun b h => ?_⟩, fun j d2 e => ?_, fun j d2 e => ?_, fun j d2 e => ?_, r.inj, fun j q a => ?_, r.fr0, r.bd, fun j q a hj => ?_⟩, ⟨fun b o hb e _ => s.stay b o (fun z => hb i (by rw [z]; exact hO)) e, s.tab, fun b h => ?_, fun j b e => .inl ⟨j, e⟩⟩⟩
  · exact s.stay b o (ne_of_none e h0) (r.same b o e)
  · by_cases hb : b = p
    · subst hb; exact h0
    · exact r.same.dom b (s.dom b hb h)
  · rcases get_set e with ⟨rfl, e2, hl⟩ | ⟨hj, e2⟩
    · cases e2
    · obtain ⟨v, h1, h2⟩ := r.vals j d2 e2
      exact ⟨v, h1, h2.mono (fun _ z => z) kp⟩
  · rcases get_set e with ⟨rfl, e2, hl⟩ | ⟨hj, e2⟩
    · cases e2
      exact ⟨p, hO, hs, h0, ow⟩
    · obtain ⟨q, h1, h2, h3, h4⟩ := r.owns j d2 e2
      have nq : q ≠ p := fun z => hj (r.inj j i p (z ▸ h1) hO)
      exact ⟨q, h1, h2, h3, h4.mono (fun _ z => z) kp fun o z wn => by haveI := wn; exact s.stay _ _ nq z⟩
  · rcases get_set e with ⟨rfl, e2, hl⟩ | ⟨hj, e2⟩
    · cases e2
    · obtain ⟨h1, h2, h4⟩ := r.slfs j d2 e2
      have nq : B.sf ≠ p := fun z => hj (r.inj j i p (z ▸ h1) hO)
      exact ⟨h1, h2, h4.mono (fun _ z => z) kp fun o z wn => by haveI := wn; exact s.stay _ _ nq z⟩
  · by_cases e : q = p
    · subst e; exact ⟨o9, ho9, w9⟩
    · obtain ⟨o, z, w⟩ := r.trk j q a
      haveI := Wr.nt w
      exact ⟨o, s.stay _ _ e z, w⟩
  · by_cases ej : j = i
    · subst ej
      exact ⟨d', .inl (List.getElem?_set_self (by simpa using hj))⟩
    · rw [List.getElem?_set_ne (Ne.symm ej)]
      exact r.nst j q a (by simpa using hj)
  · by_cases hb : b = p
    · subst hb
      rw [ho9] at h; cases h
    · exact s.dom b hb h
end
theorem own_lst {mg : Str → Option Value} {A : Addr → Prop} {H : Hp} {a : Addr} {ds : List D} (h : Own mg A H a (.lst ds)) : ∃ ws, H a = some (.lst ws) ∧ Reps mg A H ws ds := by
  cases h
  exact ⟨_, by assumption, by assumption⟩
def tSF (K : PySem.W.Frag) (mg : Str → Option Value) (db : DEnv → Option DEnv) : TS := fun D σ H => ∃ B O env env', ERel K mg B O σ H env ∧ db env = some env' ∧ ∀ H', ERel K mg B O σ H' env' → Fm O H O H' → D.nx σ H'
abbrev SF (X : Cx) (s : Stmt) (db : DEnv → Option DEnv) : Prop := PS X s (tSF X.K X.mg db)
abbrev SFs (X : Cx) (s : List Stmt) (db : DEnv → Option DEnv) : Prop := PSs X s (tSF X.K X.mg db)
def nxO (b : Sx) : DEnv → Option DEnv := fun e => (b e).bind fun r => match r with
  | .nx e' => some e'
  | _ => none
theorem nxO_ok {b : Sx} {e e' : DEnv} (h : nxO b e = some e') : b e = some (.nx e') := by
  unfold nxO at h
  obtain ⟨r, h1, h2⟩ := bnd h
  cases r <;> simp only [reduceCtorEq] at h2
  cases h2
  exact h1
def gd (t : Tx) : DEnv → Option DEnv := fun e => (t e).bind fun c => if c = true then none else some e
def sqF (a b : DEnv → Option DEnv) : DEnv → Option DEnv := fun e => (a e).bind b
section
variable {X : Cx} {τ : Bool}
theorem sf_setF {i : Nat} {c f y : Str} {e : Expr} {de : Ex} {pos pos' py : Pos} (hc : AtOk X.K X.mg c f) (he : SE X false e de) (hN : X.N[i]? = some y := by rfl) (hv : Vis X.env.scope y := by first | exact Or.inl rfl | exact Or.inr (Or.inl rfl) | exact Or.inr (Or.inr rfl)) (hd : (y == ("__debug__" : Str)) = false := by decide)
    (hcd : (y == ("__classdict__" : Str)) = false := by decide) (hs : swapsWith e (some (.Attribute (.Name y py) f pos')) pos.line X.env = pure false := by rfl) : SF X (.Assign [.Attribute (.Name y py) f pos'] e pos) (nxO (setF i c f de)) := (ps_fld (pe_var hN hv hd hcd) he hs).weak fun D σ H ⟨B, O, env, env', rl, h0, q⟩ => by
  have h1 := nxO_ok h0
  clear h0
  obtain ⟨d, hd, h2⟩ := bnd h1
  refine ⟨B, O, env, d, rl, hd, fun v H1 s1 r1 => ?_⟩
  split at h2
  · rename_i c' fs xs hi
    split at h2
    · rename_i hcc
      obtain ⟨rfl, hl1, hl2⟩ := hcc
      cases h2
      obtain ⟨g1, g2, g3⟩ := (rl.heap s1).slfs i _ hi
      obtain ⟨C', e1, e2, e3⟩ := hc.ex
      cases g3
      rename_i C dx fs' hH hmg rs
      rw [hmg] at e1
      obtain rfl : C = C' := by injection e1 with e1; injection e1
      refine ⟨_, g2, B.sf, C, dx, fs', rfl, hH, e2, e3, by simpa using hl1, ?_⟩
      obtain ⟨p1, p2⟩ := putF_map (f := f) r1 fs' xs rs
      have z := ERel.writeS (o' := .ins C dx (L2.putF f v fs')) (d' := .ins c' (putFD f d (fs'.map (·.1)) xs).1 (putFD f d (fs'.map (·.1)) xs).2) (rl.heap s1) g1 g2 (by
        rw [← p1]
        exact .ins upd_same hmg (p2.mono (fun _ z => z) (keep_write (rl.heap s1) g1))) trivial
      exact q _ z.1 ((Fm.of_same s1).trans z.2)
    · cases h2
  · cases h2
theorem sf_guard {c : Expr} {st : Stmt} {t : Tx} {pos : Pos} (hc : ST X c t) : SF X (.If c [st] [] pos) (gd t) := (ps_if (t := fun _ _ _ => False) hc pss_never pss_nil).weak fun D σ H ⟨B, O, env, env', r, h1, q⟩ => by
  obtain ⟨d, hd, h2⟩ := bnd h1
  refine ⟨B, O, env, d, r, hd, fun H' s => ?_⟩
  cases d with
  | true => rw [if_pos rfl] at h2; cases h2
  | false =>
    rw [if_neg (by decide)] at h2
    cases h2
    exact iteF (q H' (r.heap s) (Fm.of_same s))
theorem sfs_one {s : Stmt} {a : DEnv → Option DEnv} (h : SF X s a) : SFs X [s] a := pss_one h
theorem sfs_cons {s : Stmt} {ss : List Stmt} {a b : DEnv → Option DEnv} (h1 : SF X s a) (h2 : SFs X ss b) : SFs X (s :: ss) (sqF a b) := (pss_cons h1 h2).weak fun D σ H ⟨B, O, env, env', r, h, q⟩ => by
  obtain ⟨e1, h1, h2⟩ := bnd h
  exact ⟨B, O, env, e1, r, h1, fun H' r' f' => ⟨B, O, e1, env', r', h2, fun H2 r2 f2 => q H2 r2 (f'.trans f2)⟩⟩
theorem sn_listO (i : Nat) {x : Str} {p px pos : Pos} (hm : X.mg "list" = none) (hN : X.N[i]? = some x := by rfl) (hv : Vis X.env.scope x := by first | exact Or.inl rfl | exact Or.inr (Or.inl rfl) | exact Or.inr (Or.inr rfl)) (hd : (x == ("__debug__" : Str)) = false := by decide) (hcd : (x == ("__classdict__" : Str)) = false := by decide)
    (hg : Gl X "list" := by rfl) (he : starEach [.Name x px] X.env = (false, eval (.Name x px) X.env) :: starEach [] X.env := by rfl) (hpl : (backTo pos (starEach [] X.env)).any (·.1) = false := by rfl) : SN X (.Call (.Name "list" p) [.Name x px] [] pos) (op1 listD (ovar i)) := (pe_callTy call_list_of hg hm boot_list (pa_cons (pe_var hN hv hd hcd) pa_nil he) (by decide) (by decide) he hpl).weak fun σ H Q ⟨B, O, env, d, r, h1, q⟩ => by
  obtain ⟨y, hy, h2⟩ := bnd h1
  unfold ovar at hy
  split at hy
  · rename_i d' e
    cases hy
    obtain ⟨q9, h3, h4, h5, h6⟩ := r.owns i _ e
    cases y <;> simp only [listD, reduceCtorEq] at h2
    · cases h6
    · cases h2
      obtain ⟨ws, hH, rs⟩ := own_lst h6
      exact ⟨_, h4, q9, ws, rfl, .inl (.inl (.inl hH)), fun p hp => q p _ (same_upd hp) hp (.lst upd_same ((Reps.ne hp rs).same (same_upd hp)))⟩
  · cases hy
end
structure SameXN (x p : Addr) (H H' : Hp) : Prop where
  stay : ∀ (b : Addr) (o : HO), b ≠ x → b ≠ p → H b = some o → [NT o] → H' b = some o
  tab : LamX.Tabs LT.T H → LamX.Tabs LT.T H'
  dom : ∀ b, b ≠ p → H' b = none → H b = none
def spIO (mg : Str → Option Value) (c : Str) (F : Fn) : Sp := fun vs H Q _ => ∃ (x dx C p : Addr) (v1 : V) (A : Addr → Prop) (d1 : D) (xs : List V) (ds : List D) (fs : List Str) (ys : List D) (dn : D), vs = [.ref x, v1, .ref p] ∧ H x = some (.ins C dx []) ∧ mg c = some (.ref C) ∧ x ≠ p ∧ Fr A H ∧
  Rep mg (fun a => A a ∧ a ≠ x ∧ a ≠ p) H v1 d1 ∧ H p = some (.lst xs) ∧ Reps mg (fun a => A a ∧ a ≠ x ∧ a ≠ p) H xs ds ∧ F [d1, .lst ds] = some (.tup [.ins c fs ys, dn]) ∧ ∀ H', SameXN x p H H' → Own mg (fun a => A a ∧ a ≠ x ∧ a ≠ p) H' x (.ins c fs ys) → Own mg (fun a => A a ∧ a ≠ x ∧ a ≠ p) H' p dn → Q .non H'
def iniO (c : Str) (n : Nat) (b : DEnv → Option DEnv) : Fn := fun ds => match ds with
  | [d1, .lst ds] => (b (DSlot.slf (.ins c [] []) :: DSlot.val d1 :: DSlot.own (.lst ds) :: List.replicate (n - 3) DSlot.no)).bind fun e => match (e[0]? : Option DSlot), (e[2]? : Option DSlot) with
    | some (.slf (.ins c' fs xs)), some (.own dn) => if c' = c then some (.tup [.ins c' fs xs, dn]) else none
    | _, _ => none
  | _ => none
section
variable {P : Program} {w : World} {K : PySem.W.Frag} {mg : Str → Option Value} {base : Heap}
theorem ini_own {x qual c : Str} {args : Arguments} {body : List Stmt} {sc : Scope} {f : Addr} {fd : FuncData} {N ps : List Str} {k : Nat} {db : DEnv → Option DEnv} (F : FunD K x qual args body sc [] [] f fd) (S : FnScope N ps sc) (h3 : ps.length = 3)
    (hb : ∀ (cdv : Value) (A : Around) (outer : List Env) (s : Shared) (H : Hp), Room k (A.deeper (envOfC qual sc s.heap.objs.size f cdv)) → SFs (cxOf CX0 P w K mg base N qual sc f cdv A outer s H E0).nox body db) :
    FnOk P w K mg base CX0 (k + 1) f fd ps (spIO mg c (iniO c N.length db)) := by
  have hpl : ps.length ≤ N.length := by have := congrArg List.length S.pre; rw [List.length_take] at this; omega
  refine F.ok S (fun vs H Q E h => ?_) fun cdv A outer s H vs Q E hr h => ?_
  · obtain ⟨a, dx, C, p, v1, A, d1, xs, ds, fs, ys, dn, rfl, _⟩ := h
    rw [h3]; rfl
  · refine ⟨tSF K mg db, PSs.nox (hb cdv A outer s H hr), ?_⟩
    obtain ⟨a, dx, C, p, v1, A1, d1, xs, ds, fs, ys, dn, rfl, hx, hC, hne, fr, rv, hp, rs, e, q⟩ := h
    unfold iniO at e
    (try dsimp only at e)
    obtain ⟨res, h1, h2⟩ := bnd e
    have tb0 : LamX.Tabs LT.T (fun b => if b = a ∨ b = p then none else H b) := fun t ht => by
      obtain ⟨ps, g1, g2, g3⟩ := fr.tb t ht
      have n1 : t.1 ≠ a := fun e => by rw [e, hx] at g1; cases g1
      have n2 : t.1 ≠ p := fun e => by rw [e, hp] at g1; cases g1
      refine ⟨ps, by show (if t.1 = a ∨ t.1 = p then none else H t.1) = _; rw [if_neg (by simp [n1, n2])]; exact g1, g2, fun pos cv hc => ?_⟩
      obtain ⟨c, e1, e2⟩ := g3 pos cv hc
      have m1 : c ≠ a := fun e => by rw [e, hx] at e2; cases e2
      have m2 : c ≠ p := fun e => by rw [e, hp] at e2; cases e2
      exact ⟨c, e1, by show (if c = a ∨ c = p then none else H c) = _; rw [if_neg (by simp [m1, m2])]; exact e2⟩
    have lv : ∀ b, (A1 b ∧ b ≠ a ∧ b ≠ p) → Lv ⟨fun b => if b = a ∨ b = p then none else H b, fun b => A1 b ∧ b ≠ a ∧ b ≠ p, a, tb0⟩ (fun j => if j = 0 then some a else if j = 2 then some p else none) false b := fun b hb => ⟨.inl hb, .inr fun j z => by
      (try dsimp only at z)
      split at z
      · cases z; exact hb.2.1 rfl
      · split at z
        · cases z; exact hb.2.2 rfl
        · cases z⟩
    have vl : ∀ b, Lv ⟨fun b => if b = a ∨ b = p then none else H b, fun b => A1 b ∧ b ≠ a ∧ b ≠ p, a, tb0⟩ (fun j => if j = 0 then some a else if j = 2 then some p else none) false b → (A1 b ∧ b ≠ a ∧ b ≠ p) := fun b hb => by
      have no := hb.2.elim (fun z => Bool.noConfusion z) id
      have n1 : b ≠ a := fun e => no 0 (by rw [e]; rfl)
      have n2 : b ≠ p := fun e => no 2 (by rw [e]; rfl)
      rcases hb.1 with z | z
      · exact z
      · (try dsimp only at z)
        rw [if_neg (by simp [n1, n2])] at z
        exact ⟨fr b z, n1, n2⟩
    have rl : ERel K mg ⟨fun b => if b = a ∨ b = p then none else H b, fun b => A1 b ∧ b ≠ a ∧ b ≠ p, a, tb0⟩ (fun j => if j = 0 then some a else if j = 2 then some p else none) (L2.start N [.ref a, v1, .ref p]) H (DSlot.slf (.ins c [] []) :: DSlot.val d1 :: DSlot.own (.lst ds) :: List.replicate (N.length - 3) DSlot.no) := by
      refine ⟨?_, Same.of fun b o e => ?_, fun i d e => ?_, fun i d e => ?_, fun i d e => ?_, fun i j p' ha hb => ?_, fun i p' ha => ?_, fun i p' ha => ?_, ⟨3, fun i hi => by rw [if_neg (by omega), if_neg (by omega)]⟩, fun i p' ha hi => ?_⟩
      · unfold L2.start
        simp <;> omega
      · (try dsimp only at e)
        split at e
        · cases e
        · exact e
      · match i, e with
        | 0, e => cases e
        | 1, e =>
          cases e
          exact ⟨v1, rfl, rv.mono (fun b hb => lv b hb) keepRefl⟩
        | 2, e => cases e
        | i + 3, e =>
          have e : (List.replicate (N.length - 3) DSlot.no)[i]? = some (DSlot.val d) := e
          rw [List.getElem?_replicate] at e
          split at e <;> cases e
      · match i, e with
        | 0, e => cases e
        | 1, e => cases e
        | 2, e =>
          cases e
          refine ⟨p, rfl, rfl, by first | exact if_pos (.inr rfl) | (dsimp only; exact if_pos (.inr rfl)), .lst hp (rs.mono (fun b hb => lv b hb) keepRefl)⟩
        | i + 3, e =>
          have e : (List.replicate (N.length - 3) DSlot.no)[i]? = some (DSlot.own d) := e
          rw [List.getElem?_replicate] at e
          split at e <;> cases e
      · match i, e with
        | 0, e =>
          cases e
          refine ⟨rfl, rfl, ?_⟩
          have : Own mg (Lv ⟨fun b => if b = a ∨ b = p then none else H b, fun b => A1 b ∧ b ≠ a ∧ b ≠ p, a, tb0⟩ (fun j => if j = 0 then some a else if j = 2 then some p else none) false) H a (.ins c (([] : List (Str × V)).map (·.1)) []) := .ins hx hC .nil
          exact this
        | 1, e => cases e
        | 2, e => cases e
        | i + 3, e =>
          have e : (List.replicate (N.length - 3) DSlot.no)[i]? = some (DSlot.slf d) := e
          rw [List.getElem?_replicate] at e
          split at e <;> cases e
      · (try dsimp only at ha hb)
        split at ha
        · cases ha
          split at hb
          · omega
          · split at hb
            · cases hb; exact absurd rfl hne
            · cases hb
        · split at ha
          · cases ha
            split at hb
            · cases hb; exact absurd rfl hne
            · split at hb
              · omega
              · cases hb
          · cases ha
      · (try dsimp only at ha)
        split at ha
        · cases ha; exact ⟨_, hx, trivial⟩
        · split at ha
          · cases ha; exact ⟨_, hp, trivial⟩
          · cases ha
      · (try dsimp only at ha)
        split at ha
        · cases ha; simp
        · split at ha
          · cases ha; simp
          · cases ha
      · (try dsimp only at ha)
        split at ha
        · rename_i hi0
          subst hi0
          exact ⟨_, .inr rfl⟩
        · split at ha
          · rename_i hi2
            subst hi2
            exact ⟨_, .inl rfl⟩
          · cases ha
    (try dsimp only at h2)
    split at h2
    · rename_i c' fs' xs' dn' he1 he2
      split at h2
      · rename_i hcc
        subst hcc
        cases h2
        refine ⟨_, _, _, res, rl, h1, fun H' rl' f' => q H' ⟨fun b o hb hb2 e _ => rl'.same b o (by (try dsimp only); rw [if_neg (by simp [hb, hb2])]; exact e), f'.tab, fun b hb z => f'.dom b z⟩ ?_ ?_⟩
        · obtain ⟨g1, g2, g3⟩ := rl'.slfs 0 _ he1
          exact g3.mono (fun b hb => vl b hb) keepRefl fun _ z => z
        · obtain ⟨p', k1, k2, k3, k4⟩ := rl'.owns 2 _ he2
          obtain rfl : p = p' := Option.some.inj k1
          exact k4.mono (fun b hb => vl b hb) keepRefl fun _ z => z
      · cases h2
    · cases h2
end
end PV

namespace PV
variable [LT] [RT]
open PySem PySem.Spec PyProof.Rows L2
structure MakeO (P : Program) (w : World) (K : PySem.W.Frag) (mg : Str → Option Value) (base : Heap) (k : Nat) (c : Str) (F : Fn) : Prop where
  ex : ∃ C f fd ps, FnOk P w K mg base CX0 k f fd ps (spIO mg c F) ∧ mg c = some (.ref C) ∧ Mk K C f ∧ Binds K fd ps []
def mkOE (c : Str) (F : Fn) (a : Ex) (j : Nat) : Ee := fun e => (a e).bind fun d1 => match (e[j]? : Option DSlot) with
  | some (.own (.lst ds)) => (F [d1, .lst ds]).bind fun r => match r with
    | .tup [.ins c' fs ys, dn] => if c' = c then some (.ins c' fs ys, e.set j (.own dn)) else none
    | _ => none
  | _ => none
section
variable {X : Cx} {τ : Bool}
theorem ee_makO {k j : Nat} {c y : Str} {F : Fn} {e1 : Expr} {a : Ex} {p py pos : Pos} (g : MakeO X.prog X.w X.K X.mg X.base k c F) (hr : Room (k + 1) X.A) (h1 : SE X false e1 a) (hN : X.N[j]? = some y := by rfl) (hv : Vis X.env.scope y := by first | exact Or.inl rfl | exact Or.inr (Or.inl rfl) | exact Or.inr (Or.inr rfl)) (hd : (y == ("__debug__" : Str)) = false := by decide) (hcd : (y == ("__classdict__" : Str)) = false := by decide)
    (hg : Gl X c := by rfl) (hdb : (c == ("__debug__" : Str)) = false := by decide) (he : starEach [e1, .Name y py] X.env = (false, eval e1 X.env) :: starEach [.Name y py] X.env := by rfl) (he2 : starEach [.Name y py] X.env = (false, eval (.Name y py) X.env) :: starEach [] X.env := by rfl) (hpl : (backTo pos (starEach [.Name y py] X.env)).any (·.1) = false := by rfl) :
    EE X (.Call (.Name c p) [e1, .Name y py] [] pos) (mkOE c F a j) := by
  obtain ⟨C, f, fd, ps, G, hm, M, hb⟩ := g.ex
  refine (pe_make M G hr hg hm hb .nil pass0 (pa_cons h1 (pa_cons (pe_var hN hv hd hcd) pa_nil he2) he) hdb he hpl).weak fun σ H Q ⟨B, O, env, d, env', rl, h, q⟩ => ?_
  obtain ⟨d1, hd1, h2⟩ := bnd h
  clear h
  split at h2
  · rename_i ds hj
    obtain ⟨r, hF, h3⟩ := bnd h2
    clear h2
    split at h3
    · rename_i c' fs ys dn
      split at h3
      · rename_i hcc
        subst hcc
        cases h3
        refine ⟨B, O, env, d1, rl, hd1, fun v1 H1 s1 r1 => ?_⟩
        have rl1 := rl.heap s1
        obtain ⟨p', g1, g2, g3, g4⟩ := rl1.owns j _ hj
        obtain ⟨ws, hp, rs⟩ := own_lst g4
        refine ⟨.ref p', g2, fun x dx hx hdx hne => ?_⟩
        have s0 : Same H1 (upd (upd H1 dx (.own x)) x (.ins C dx [])) := Same.of fun b o z => by
          rw [upd_ne (ne_of_none z hx), upd_ne (ne_of_none z hdx)]; exact z
        have hxp : x ≠ p' := fun e => by
          rw [e] at hx
          rw [hx] at hp
          cases hp
        have nl : ∀ b, Lv B O false b → b ≠ p' := fun b hb e => hb.2.elim (fun z => Bool.noConfusion z) fun z => z j (by rw [e]; exact g1)
        have fr := rl1.fr (τ := false)
        have up : ∀ b, (Lv B O false b ∧ b ≠ x) → (Lv B O false b ∧ b ≠ x ∧ b ≠ p') := fun b hb => ⟨hb.1, hb.2, nl b hb.1⟩
        refine ⟨x, dx, C, p', v1, Lv B O false, d1, ws, ds, fs, ys, dn, rfl, upd_same, hm, hxp, ⟨fun a ha => fr a (Same.free s0 ha), s0.tabs fr.tb⟩, ((Rep.ne hx r1).same s0).mono up keepRefl, s0 _ _ hp, ((Reps.ne hx rs).same s0).mono up keepRefl, hF, fun H' sx ox op => ⟨rfl, ?_⟩⟩
        have sN : SameN p' H H' := ⟨fun b o hb e nt => by
          have e1 := s1 b o e
          exact sx.stay b o (ne_of_none e1 hx) hb (s0 b o e1), fun t => sx.tab (s0.tab (s1.tab t)), fun b hb z => s1.dom b (s0.dom b (sx.dom b hb z))⟩
        obtain ⟨z1, z2⟩ := rl.stepO g1 g2 g3 sN (op.mono (fun b hb => hb.1) keepRefl fun _ z => z)
        exact q _ H' z1 z2 (ox.rep (fun _ z => z.1) (fr x hx))
      · cases h3
    · cases h3
  · cases h2
end
end PV

namespace PV
variable [LT] [RT]
open PySem PySem.Spec PyProof.Rows L2
def isIntD : D → Option D
  | .int _ => some (.bl true)
  | _ => none
section
variable {X : Cx} {τ : Bool}
theorem se_isInt {e : Expr} {de : Ex} {p p2 pos : Pos} (hm : X.mg "isinstance" = none) (hm2 : X.mg "int" = none) (h : SE X true e de) (hg : Gl X "isinstance" := by rfl) (hg2 : Gl X "int" := by rfl) (n1 : starEach [e, .Name "int" p2] X.env = (false, eval e X.env) :: starEach [.Name "int" p2] X.env := by rfl) (n2 : starEach [.Name "int" p2] X.env = (false, eval (.Name "int" p2) X.env) :: starEach [] X.env := by rfl) (hpl : (backTo pos (starEach [.Name "int" p2] X.env)).any (·.1) = false := by rfl) : SE X τ (.Call (.Name "isinstance" p) [e, .Name "int" p2] [] pos) (op1 isIntD de) :=
  (pe_callB call_isi hg hm boot_isinstance (pa_cons h (pa_cons (pe_bltn (v := .ty "int") hg2 hm2 PyProof.Rows.boot_int rfl) pa_nil n2) n1) (by decide) (by decide) n1 hpl).weak fun σ H Q ⟨B, O, env, d, r, h1, q⟩ => by
  obtain ⟨x, hx, h2⟩ := bnd h1
  refine ⟨B, O, env, x, r, hx, fun v H1 s1 r1 => ?_⟩
  cases x <;> simp only [isIntD, reduceCtorEq] at h2
  cases h2
  cases r1
  exact ⟨_, _, _, .type "int", true, rfl, .ty "int", .base (.int _), rfl, q _ H1 s1 (.bl _)⟩
end
end PV

namespace PV
open PySem PySem.Spec PyProof.Rows L2
section
variable {P : Program} {w : World} {K : PySem.W.Frag} {mg : Str → Option Value} {base : Heap}
def N__law_cell : List Str := ["_law_script", "_law_k"]
def F__law_cell : Fn := fnc 2 2
    (sq (ifS (cmp ltD (var 1) (cal (f1 lenD) (aC (var 0) aN)))
      (rt (op2 getD (var 0) (var 1)))
      skip)
      (rt (cst (.int 0))))
theorem sc__law_cell : FnScope N__law_cell ["_law_script", "_law_k"] (defScope (topS 17)) := ⟨rfl, rfl, rfl, by decide +kernel, rfl, by decide +kernel, by decide +kernel⟩
theorem ok__law_cell (Z : ZF fa fn exl K mg) : CallOk P w K mg base 1 "_law_cell" F__law_cell := by
  obtain ⟨fd, F⟩ := Z.says.def_ 0 (d := d0)
  have sc := sc__law_cell
  exact ⟨_, fd, _, fn_sound F sc fun cdv A outer s H hr =>
    (ss_cons (s_if (st_cmp op_ltD (se_var 1) (se_bltI imm_lenD cr_lenD (Z.free 4) boot_len (sa_cons (se_var 0) sa_nil)))
      (ss_one (s_ret (se_get (se_var 0) (se_var 1))))
      ss_nil)
      (ss_one (s_ret se_int))), (Z.glo 22), F.kp, (F.bindsN fun _ _ _ _ _ _ us hl => match us, hl with | [_, _], _ => rfl)⟩
def N_raised_number : List Str := ["prime", "number", "exponent", "found", "_"]
def F_raised_number : Fn := fnc 3 5
    (sq (setE 3 (cst (.int 1)))
      (sq (forE (iRng (one1 (aC (var 2) aN))) (.n 4)
      (setE 3 (op2 modD (op2 mulD (var 3) (var 1)) (var 0))))
      (rt (var 3))))
theorem sc_raised_number : FnScope N_raised_number ["prime", "number", "exponent"] (defScope (topS 11)) := ⟨rfl, rfl, rfl, by decide +kernel, rfl, by decide +kernel, by decide +kernel⟩
theorem ok_raised_number (Z : ZF fa fn exl K mg) : CallOk P w K mg base 1 "raised_number" F_raised_number := by
  obtain ⟨fd, F⟩ := Z.says.def_ 1 (d := d1)
  have sc := sc_raised_number
  exact ⟨_, fd, _, fn_sound F sc fun cdv A outer s H hr =>
    (ss_cons (s_set sc.nd se_int)
      (ss_cons (s_for PassesOwn.never rfl (si_rng1 (Z.free 1) (sa_cons (se_var 2) sa_nil)) (g_n 4 sc.nd)
      (ss_one (s_set sc.nd (se_op2 op_modD (se_op2 op_mulD (se_var 3) (se_var 1)) (se_var 0)))))
      (ss_one (s_ret (se_var 3))))), (Z.glo 23), F.kp, (F.bindsN fun _ _ _ _ _ _ us hl => match us, hl with | [_, _, _], _ => rfl)⟩
def N_inverse : List Str := ["prime", "number"]
def F_inverse : Fn := fnc 2 2
    (rt (cal F_raised_number (aC (var 0) (aC (var 1) (aC (op2 subD (var 0) (cst (.int 2))) aN)))))
theorem sc_inverse : FnScope N_inverse ["prime", "number"] (defScope (topS 13)) := ⟨rfl, rfl, rfl, by decide +kernel, rfl, by decide +kernel, by decide +kernel⟩
theorem ok_inverse (Z : ZF fa fn exl K mg) : CallOk P w K mg base 2 "inverse" F_inverse := by
  obtain ⟨fd, F⟩ := Z.says.def_ 2 (d := d2)
  have sc := sc_inverse
  exact ⟨_, fd, _, fn_sound F sc fun cdv A outer s H hr =>
    (ss_one (s_ret (se_cal (ok_raised_number Z) (hr.mono (by decide)) (sa_cons (se_var 0) (sa_cons (se_var 1) (sa_cons (se_op2 op_subD (se_var 0) se_int) sa_nil)))))), (Z.glo 24), F.kp, (F.bindsN fun _ _ _ _ _ _ us hl => match us, hl with | [_, _], _ => rfl)⟩
def N__law_digits : List Str := ["_law_cell_here", "_law_many", "_law_count", "_law_digits_here", "_law_rest", "_law_k", "_law_mixed"]
def F__law_digits : Fn := fnc 3 7
    (sq (newE 3 (lstE aN))
      (sq (setE 4 (var 0))
      (sq (forE (iRng (one1 (aC (var 2) aN))) (.n 5)
      (ifS (cmp (flip leD) (var 0) (op2 powD (cst (.int 10)) (cst (.int 18))))
      (sq (app 3 (op2 modD (cal (f1 intD) (aC (var 4) aN)) (var 1)))
      (setE 4 (op2 divD (var 4) (var 1))))
      (sq (setE 6 (op2 modD (cal (f1 intD) (aC (op2 addD (op2 addD (op2 mulD (var 0) (cst (.int 48271))) (op2 mulD (var 5) (cst (.int 69621)))) (cst (.int 1013))) aN)) (cst (.int 2147483647))))
      (sq (setE 6 (op2 modD (cal (f1 intD) (aC (op2 addD (op2 addD (op2 mulD (var 6) (var 6)) (op2 mulD (cst (.int 7)) (var 6))) (var 5)) aN)) (cst (.int 2147483629))))
      (app 3 (op2 modD (cal (f1 intD) (aC (op2 divD (var 6) (cst (.int 31))) aN)) (var 1)))))))
      (rt (ovar 3)))))
theorem sc__law_digits : FnScope N__law_digits ["_law_cell_here", "_law_many", "_law_count"] (defScope (topS 18)) := ⟨rfl, rfl, rfl, by decide +kernel, rfl, by decide +kernel, by decide +kernel⟩
theorem ok__law_digits (Z : ZF fa fn exl K mg) : CallOk P w K mg base 1 "_law_digits" F__law_digits := by
  obtain ⟨fd, F⟩ := Z.says.def_ 3 (d := d3)
  have sc := sc__law_digits
  exact ⟨_, fd, _, fn_sound F sc fun cdv A outer s H hr =>
    (ss_cons (s_new sc.nd (sn_lst sa_nil))
      (ss_cons (s_set sc.nd (se_var 0))
      (ss_cons (s_for PassesOwn.never rfl (si_rng1 (Z.free 1) (sa_cons (se_var 2) sa_nil)) (g_n 5 sc.nd)
      (ss_one (s_if (st_cmp op_geD (se_var 0) (se_op2 op_powD se_int se_int))
      (ss_cons (s_app (se_op2 op_modD (se_btyI imm_intD cr_intD (Z.free 0) PyProof.Rows.boot_int (sa_cons (se_var 4) sa_nil)) (se_var 1)))
      (ss_one (s_set sc.nd (se_op2 op_divD (se_var 4) (se_var 1)))))
      (ss_cons (s_set sc.nd (se_op2 op_modD (se_btyI imm_intD cr_intD (Z.free 0) PyProof.Rows.boot_int (sa_cons (se_op2 op_addD (se_op2 op_addD (se_op2 op_mulD (se_var 0) se_int) (se_op2 op_mulD (se_var 5) se_int)) se_int) sa_nil)) se_int))
      (ss_cons (s_set sc.nd (se_op2 op_modD (se_btyI imm_intD cr_intD (Z.free 0) PyProof.Rows.boot_int (sa_cons (se_op2 op_addD (se_op2 op_addD (se_op2 op_mulD (se_var 6) (se_var 6)) (se_op2 op_mulD se_int (se_var 6))) (se_var 5)) sa_nil)) se_int))
      (ss_one (s_app (se_op2 op_modD (se_btyI imm_intD cr_intD (Z.free 0) PyProof.Rows.boot_int (sa_cons (se_op2 op_divD (se_var 6) se_int) sa_nil)) (se_var 1)))))))))
      (ss_one (s_ret (se_ovar 3)))))), (Z.glo 25), F.kp, (F.bindsN fun _ _ _ _ _ _ us hl => match us, hl with | [_, _, _], _ => rfl)⟩
def N__law_word : List Str := ["_law_cell_here", "_law_digits_here", "_law_size", "_law_word_here", "_law_k", "_law_many", "_law_at"]
def F__law_word : Fn := fnc 1 7
    (sq (setE 1 (cal F__law_digits (aC (var 0) (aC (op2 mulD (cst (.int 36)) (cst (.int 35))) (aC (cst (.int 18)) aN)))))
      (sq (setE 2 (op2 getD (lstE (aC (cst (.int 0)) (aC (cst (.int 1)) (aC (cst (.int 12)) (aC (cst (.int 13)) (aC (cst (.int 3)) (aC (cst (.int 2)) aN))))))) (op2 modD (cal (f1 intD) (aC (op2 getD (var 1) (cst (.int 0))) aN)) (cst (.int 6)))))
      (sq (setE 3 (cst (.str "")))
      (sq (forE (iRng (one1 (aC (var 2) aN))) (.n 4)
      (sq (setE 5 (ife (andT (cmp eqD (var 4) (cst (.int 0))) (cmp (flip ltD) (op2 modD (cal (f1 intD) (aC (op2 getD (var 1) (cst (.int 1))) aN)) (cst (.int 5))) (cst (.int 0)))) (cst (.int 26)) (cst (.int 36))))
      (setE 3 (op2 addD (var 3) (op2 getD (cst (.str "abcdefghijklmnopqrstuvwxyz0123456789")) (op2 modD (cal (f1 intD) (aC (op2 getD (var 1) (op2 addD (cst (.int 3)) (var 4))) aN)) (var 5)))))))
      (sq (ifS (cmp eqD (op2 modD (cal (f1 intD) (aC (op2 getD (var 1) (cst (.int 2))) aN)) (cst (.int 3))) (cst (.int 1)))
      (sq (setE 6 (op2 modD (cal (f1 intD) (aC (op2 getD (var 1) (cst (.int 16))) aN)) (op2 addD (cal (f1 lenD) (aC (var 3) aN)) (cst (.int 1)))))
      (setE 3 (op2 addD (op2 addD (slE slcT (var 3) prN (prt (var 6))) (op2 getD (cst (.str "AZ_ -.{/:@\x5b^")) (op2 modD (cal (f1 intD) (aC (op2 getD (var 1) (cst (.int 17))) aN)) (cst (.int 12))))) (slE slcT (var 3) (prt (op2 addD (var 6) (op2 modD (cal (f1 intD) (aC (op2 divD (op2 getD (var 1) (cst (.int 2))) (cst (.int 3))) aN)) (cst (.int 2))))) prN))))
      skip)
      (rt (var 3)))))))
theorem sc__law_word : FnScope N__law_word ["_law_cell_here"] (defScope (topS 19)) := ⟨rfl, rfl, rfl, by decide +kernel, rfl, by decide +kernel, by decide +kernel⟩
theorem ok__law_word (Z : ZF fa fn exl K mg) : CallOk P w K mg base 2 "_law_word" F__law_word := by
  obtain ⟨fd, F⟩ := Z.says.def_ 4 (d := d4)
  have sc := sc__law_word
  exact ⟨_, fd, _, fn_sound F sc fun cdv A outer s H hr =>
    (ss_cons (s_set sc.nd (se_cal (ok__law_digits Z) (hr.mono (by decide)) (sa_cons (se_var 0) (sa_cons (se_op2 op_mulD se_int se_int) (sa_cons se_int sa_nil)))))
      (ss_cons (s_set sc.nd (se_get (SN.se (sn_lst (sa_cons se_int (sa_cons se_int (sa_cons se_int (sa_cons se_int (sa_cons se_int (sa_cons se_int sa_nil)))))))) (se_op2 op_modD (se_btyI imm_intD cr_intD (Z.free 0) PyProof.Rows.boot_int (sa_cons (se_get (se_var 1) se_int) sa_nil)) se_int)))
      (ss_cons (s_set sc.nd se_str)
      (ss_cons (s_for PassesOwn.never rfl (si_rng1 (Z.free 1) (sa_cons (se_var 2) sa_nil)) (g_n 4 sc.nd)
      (ss_cons (s_set sc.nd (se_ife (SWd.st (sw_and (st_cmp (op_eqDD hr.units) (se_var 4) se_int) (sw_and1 (st_cmp op_gtD (se_op2 op_modD (se_btyI imm_intD cr_intD (Z.free 0) PyProof.Rows.boot_int (sa_cons (se_get (se_var 1) se_int) sa_nil)) se_int) se_int)))) se_int se_int))
      (ss_one (s_set sc.nd (se_op2 op_addD (se_var 3) (se_get se_str (se_op2 op_modD (se_btyI imm_intD cr_intD (Z.free 0) PyProof.Rows.boot_int (sa_cons (se_get (se_var 1) (se_op2 op_addD se_int (se_var 4))) sa_nil)) (se_var 5))))))))
      (ss_cons (s_if (st_cmp (op_eqDD hr.units) (se_op2 op_modD (se_btyI imm_intD cr_intD (Z.free 0) PyProof.Rows.boot_int (sa_cons (se_get (se_var 1) se_int) sa_nil)) se_int) se_int)
      (ss_cons (s_set sc.nd (se_op2 op_modD (se_btyI imm_intD cr_intD (Z.free 0) PyProof.Rows.boot_int (sa_cons (se_get (se_var 1) se_int) sa_nil)) (se_op2 op_addD (se_bltI imm_lenD cr_lenD (Z.free 4) boot_len (sa_cons (se_var 3) sa_nil)) se_int)))
      (ss_one (s_set sc.nd (se_op2 op_addD (se_op2 op_addD (se_slT (se_var 3) so_none (so_some (se_var 6))) (se_get se_str (se_op2 op_modD (se_btyI imm_intD cr_intD (Z.free 0) PyProof.Rows.boot_int (sa_cons (se_get (se_var 1) se_int) sa_nil)) se_int))) (se_slT (se_var 3) (so_some (se_op2 op_addD (se_var 6) (se_op2 op_modD (se_btyI imm_intD cr_intD (Z.free 0) PyProof.Rows.boot_int (sa_cons (se_op2 op_divD (se_get (se_var 1) se_int) se_int) sa_nil)) se_int))) so_none)))))
      ss_nil)
      (ss_one (s_ret (se_var 3)))))))), (Z.glo 26), F.kp, (F.bindsN fun _ _ _ _ _ _ us hl => match us, hl with | [_], _ => rfl)⟩
def N_is_name : List Str := ["text", "char"]
def F_is_name : Fn := fnc 1 2
    (sq (ifS (orT (notT (chn leD leD (cst (.int 1)) (cal (f1 lenD) (aC (var 0) aN)) (cst (.int 12)))) (cmp (neg inS) (op2 getD (var 0) (cst (.int 0))) (cst (.str "abcdefghijklmnopqrstuvwxyz"))))
      (rt (cst (.bl false)))
      skip)
      (rt (cal (f1 allL) (aC (lcE (iSt (var 0)) (.n 1) yes (orV (boo (cmp inS (var 1) (cst (.str "abcdefghijklmnopqrstuvwxyz")))) (boo (cmp inS (var 1) (cst (.str "0123456789"))))) [1]) aN))))
theorem sc_is_name : FnScope N_is_name ["text"] (defScope (topS 14)) := ⟨rfl, rfl, rfl, by decide +kernel, rfl, by decide +kernel, by decide +kernel⟩
theorem ok_is_name (Z : ZF fa fn exl K mg) : CallOk P w K mg base 1 "is_name" F_is_name := by
  obtain ⟨fd, F⟩ := Z.says.def_ 5 (d := d5)
  have sc := sc_is_name
  exact ⟨_, fd, _, fn_sound F sc fun cdv A outer s H hr =>
    (ss_cons (s_if (SWd.st (sw_or (st_not (st_chn op_leD op_leD se_int (se_bltI imm_lenD cr_lenD (Z.free 4) boot_len (sa_cons (se_var 0) sa_nil)) (se_gint (Z.int 5)))) (sw_or1 (st_cmp op_ninSD (se_get (se_var 0) se_int) (se_gstr (Z.str 6))))))
      (ss_one (s_ret se_bl))
      ss_nil)
      (ss_one (s_ret (se_bltI imm_allL (cr_allL rfl) (Z.free 8) boot_all (sa_cons (SN.se (sn_lc rfl sc.nd (si_str (se_var 0)) (blkOk_by (own := [("char", 1)]) (N := N_is_name) (sc := defScope (topS 14)) (by decide +kernel)) (fun _ _ _ _ _ => (g_n 1 sc.nd)) (fun _ _ _ _ _ => (se_or (se_cmp op_inSD (se_var 1) (se_gstr (Z.str 6))) (se_one (se_cmp op_inSD (se_var 1) (se_gstr (Z.str 7)))))))) sa_nil))))), (Z.glo 27), F.kp, (F.bindsN fun _ _ _ _ _ _ us hl => match us, hl with | [_], _ => rfl)⟩
def N__law_is_name : List Str := ["_law_word_here", "_law_char"]
def F__law_is_name : Fn := fnc 1 2
    (sq (ifS (orT (cmp eqD (cal (f1 lenD) (aC (var 0) aN)) (cst (.int 0))) (orT (cmp (flip ltD) (cal (f1 lenD) (aC (var 0) aN)) (cst (.int 12))) (cmp (neg inS) (op2 getD (var 0) (cst (.int 0))) (cst (.str "abcdefghijklmnopqrstuvwxyz")))))
      (rt (cst (.bl false)))
      skip)
      (rt (cal (f1 allL) (aC (lcE (iSt (var 0)) (.n 1) yes (boo (cmp inS (var 1) (cst (.str "abcdefghijklmnopqrstuvwxyz0123456789")))) [1]) aN))))
theorem sc__law_is_name : FnScope N__law_is_name ["_law_word_here"] (defScope (topS 20)) := ⟨rfl, rfl, rfl, by decide +kernel, rfl, by decide +kernel, by decide +kernel⟩
theorem ok__law_is_name (Z : ZF fa fn exl K mg) : CallOk P w K mg base 1 "_law_is_name" F__law_is_name := by
  obtain ⟨fd, F⟩ := Z.says.def_ 6 (d := d6)
  have sc := sc__law_is_name
  exact ⟨_, fd, _, fn_sound F sc fun cdv A outer s H hr =>
    (ss_cons (s_if (SWd.st (sw_or (st_cmp (op_eqDD hr.units) (se_bltI imm_lenD cr_lenD (Z.free 4) boot_len (sa_cons (se_var 0) sa_nil)) se_int) (sw_or (st_cmp op_gtD (se_bltI imm_lenD cr_lenD (Z.free 4) boot_len (sa_cons (se_var 0) sa_nil)) se_int) (sw_or1 (st_cmp op_ninSD (se_get (se_var 0) se_int) se_str)))))
      (ss_one (s_ret se_bl))
      ss_nil)
      (ss_one (s_ret (se_bltI imm_allL (cr_allL rfl) (Z.free 8) boot_all (sa_cons (SN.se (sn_lc rfl sc.nd (si_str (se_var 0)) (blkOk_by (own := [("_law_char", 1)]) (N := N__law_is_name) (sc := defScope (topS 20)) (by decide +kernel)) (fun _ _ _ _ _ => (g_n 1 sc.nd)) (fun _ _ _ _ _ => (se_cmp op_inSD (se_var 1) se_str)))) sa_nil))))), (Z.glo 28), F.kp, (F.bindsN fun _ _ _ _ _ _ us hl => match us, hl with | [_], _ => rfl)⟩
def N_Space___init__ : List Str := ["self", "prime", "names", "name"]
theorem sc_Space___init__ : FnScope N_Space___init__ ["self", "prime", "names"] (defScope (inClass (topS 15) 0)) := ⟨rfl, rfl, rfl, by decide +kernel, rfl, by decide +kernel, by decide +kernel⟩
def G_Space___init__ : List D → Bool := iniG "Space" 3 4
    (gSq (gIf (orT (inC true ([2, 3, 5, 7].map D.int) (var 1)) (notT (chn leD leD (cst (.int 1)) (cal (f1 lenD) (aC (var 2) aN)) (cst (.int 8))))) gY gN)
      (ifS (orT (inC true ([2, 3, 5, 7].map D.int) (var 1)) (notT (chn leD leD (cst (.int 1)) (cal (f1 lenD) (aC (var 2) aN)) (cst (.int 8)))))
      stuck
      skip)
      (gSq (gIf (orT (notT (tes (cal (f1 allL) (aC (lcE (iLst (var 2)) (.n 3) yes (cal F_is_name (aC (var 3) aN)) [3]) aN)))) (cmp ltD (op1 lenSet (var 2)) (cal (f1 lenD) (aC (var 2) aN)))) gY gN)
      (ifS (orT (notT (tes (cal (f1 allL) (aC (lcE (iLst (var 2)) (.n 3) yes (cal F_is_name (aC (var 3) aN)) [3]) aN)))) (cmp ltD (op1 lenSet (var 2)) (cal (f1 lenD) (aC (var 2) aN))))
      stuck
      skip)
      (gSq (gIf (cmp (flip ltD) (cal (f1 lenD) (aC (var 2) aN)) (op1 (tabI [(2, 8), (3, 5), (5, 3), (7, 2)]) (var 1))) gY gN)
      (ifS (cmp (flip ltD) (cal (f1 lenD) (aC (var 2) aN)) (op1 (tabI [(2, 8), (3, 5), (5, 3), (7, 2)]) (var 1)))
      stuck
      skip)
      (gSq gN
      (setF 0 "Space" "prime" (var 1))
      (gSq gN
      (setF 0 "Space" "names" (op1 listD (var 2)))
      (gSq gN
      (setF 0 "Space" "count" (cal (f1 lenD) (aC (var 2) aN)))
      gN))))))
def F_O_Space___init__ : Fn := iniO "Space" 4
    (sqF (gd (orT (inC true ([2, 3, 5, 7].map D.int) (var 1)) (notT (chn leD leD (cst (.int 1)) (cal (f1 lenD) (aC (ovar 2) aN)) (cst (.int 8))))))
      (sqF (gd (orT (notT (tes (cal (f1 allL) (aC (lcE (iLst (ovar 2)) (.n 3) yes (cal F_is_name (aC (var 3) aN)) [3]) aN)))) (cmp ltD (op1 lenSet (ovar 2)) (cal (f1 lenD) (aC (ovar 2) aN)))))
      (sqF (gd (cmp (flip ltD) (cal (f1 lenD) (aC (ovar 2) aN)) (op1 (tabI [(2, 8), (3, 5), (5, 3), (7, 2)]) (var 1))))
      (sqF (nxO (setF 0 "Space" "prime" (var 1)))
      (sqF (nxO (setF 0 "Space" "names" (op1 listD (ovar 2))))
      (nxO (setF 0 "Space" "count" (imm (cal (f1 lenD) (aC (ovar 2) aN))))))))))
theorem okR_Space___init__ (Z : ZF fa fn exl K mg) : MakeR P w K mg base 2 "Space" (.ref (He.ga K "InvalidSpace")) G_Space___init__ := by
  obtain ⟨fd, F⟩ := Z.says.def_ 7 (d := d7)
  have sc := sc_Space___init__
  exact ⟨_, _, fd, _, ini_raise F sc fun cdv A outer s H E hr =>
    have tk := takes_of (X := cxOf (L2.CX P w) P w K mg base N_Space___init__ _ _ _ _ _ _ _ _ E) rfl rfl rfl rfl
    (srs_cons (s_if (SWd.st (sw_or (st_ninC (Z.exf 1) (Z.glo 18) (se_var 1)) (sw_or1 (st_not (st_chn op_leD op_leD se_int (se_bltI imm_lenD cr_lenD (Z.free 4) boot_len (sa_cons (se_var 2) sa_nil)) (se_gint (Z.int 19)))))))
      (ss_one s_stuck)
      ss_nil)
      (sr_if (SWd.st (sw_or (st_ninC (Z.exf 1) (Z.glo 18) (se_var 1)) (sw_or1 (st_not (st_chn op_leD op_leD se_int (se_bltI imm_lenD cr_lenD (Z.free 4) boot_len (sa_cons (se_var 2) sa_nil)) (se_gint (Z.int 19))))))) (srs_one (sr_raise (Z.exf 3) (Z.glo 10) tk)) srs_no)
      (srs_cons (s_if (SWd.st (sw_or (st_not (st_tes (se_bltI imm_allL (cr_allL rfl) (Z.free 8) boot_all (sa_cons (SN.se (sn_lc rfl sc.nd (si_list (se_var 2)) (blkOk_by (own := [("name", 3)]) (N := N_Space___init__) (sc := defScope (inClass (topS 15) 0)) (by decide +kernel)) (fun _ _ _ _ _ => (g_n 3 sc.nd)) (fun _ _ _ _ _ => (se_cal (ok_is_name Z) (hr.mono (by decide)) (sa_cons (se_var 3) sa_nil))))) sa_nil)))) (sw_or1 (st_cmp op_ltD (se_lenSet rfl (Z.free 4) (Z.free 20) (se_var 2)) (se_bltI imm_lenD cr_lenD (Z.free 4) boot_len (sa_cons (se_var 2) sa_nil))))))
      (ss_one s_stuck)
      ss_nil)
      (sr_if (SWd.st (sw_or (st_not (st_tes (se_bltI imm_allL (cr_allL rfl) (Z.free 8) boot_all (sa_cons (SN.se (sn_lc rfl sc.nd (si_list (se_var 2)) (blkOk_by (own := [("name", 3)]) (N := N_Space___init__) (sc := defScope (inClass (topS 15) 0)) (by decide +kernel)) (fun _ _ _ _ _ => (g_n 3 sc.nd)) (fun _ _ _ _ _ => (se_cal (ok_is_name Z) (hr.mono (by decide)) (sa_cons (se_var 3) sa_nil))))) sa_nil)))) (sw_or1 (st_cmp op_ltD (se_lenSet rfl (Z.free 4) (Z.free 20) (se_var 2)) (se_bltI imm_lenD cr_lenD (Z.free 4) boot_len (sa_cons (se_var 2) sa_nil)))))) (srs_one (sr_raise (Z.exf 3) (Z.glo 10) tk)) srs_no)
      (srs_cons (s_if (st_cmp op_gtD (se_bltI imm_lenD cr_lenD (Z.free 4) boot_len (sa_cons (se_var 2) sa_nil)) (se_tabI (Z.exf 2) (Z.glo 21) (se_var 1)))
      (ss_one s_stuck)
      ss_nil)
      (sr_if (st_cmp op_gtD (se_bltI imm_lenD cr_lenD (Z.free 4) boot_len (sa_cons (se_var 2) sa_nil)) (se_tabI (Z.exf 2) (Z.glo 21) (se_var 1))) (srs_one (sr_raise (Z.exf 3) (Z.glo 10) tk)) srs_no)
      (srs_cons (s_setF (Z.at 13 14 15) (se_var 1))
      sr_no
      (srs_cons (s_setF (Z.at 13 14 16) (SN.se (sn_list (Z.free 9) (se_var 2))))
      sr_no
      (srs_cons (s_setF (Z.at 13 14 17) (se_bltI imm_lenD cr_lenD (Z.free 4) boot_len (sa_cons (se_var 2) sa_nil)))
      sr_no
      srs_no)))))), (Z.glo 13), (He.mkr_ok (Z.says.fact 29)), (F.bindsN fun _ _ _ _ _ _ us hl => match us, hl with | [_, _, _], _ => rfl)⟩
theorem okO_Space___init__ (Z : ZF fa fn exl K mg) : MakeO P w K mg base 2 "Space" F_O_Space___init__ := by
  obtain ⟨fd, F⟩ := Z.says.def_ 7 (d := d7)
  have sc := sc_Space___init__
  exact ⟨_, _, fd, _, ini_own F sc rfl fun cdv A outer s H hr =>
    (sfs_cons (sf_guard (SWd.st (sw_or (st_ninC (Z.exf 1) (Z.glo 18) (se_var 1)) (sw_or1 (st_not (st_chn op_leD op_leD se_int (se_bltI imm_lenD cr_lenD (Z.free 4) boot_len (sa_cons (se_ovar 2) sa_nil)) (se_gint (Z.int 19))))))))
      (sfs_cons (sf_guard (SWd.st (sw_or (st_not (st_tes (se_bltI imm_allL (cr_allL rfl) (Z.free 8) boot_all (sa_cons (SN.se (sn_lcO 2 rfl sc.nd (blkOk_by (own := [("name", 3)]) (N := N_Space___init__) (sc := defScope (inClass (topS 15) 0)) (by decide +kernel)) (fun _ _ _ _ _ => (g_n 3 sc.nd)) (fun _ _ _ _ _ => (se_cal (ok_is_name Z) (hr.mono (by decide)) (sa_cons (se_var 3) sa_nil))))) sa_nil)))) (sw_or1 (st_cmp op_ltD (se_lenSet rfl (Z.free 4) (Z.free 20) (se_ovar 2)) (se_bltI imm_lenD cr_lenD (Z.free 4) boot_len (sa_cons (se_ovar 2) sa_nil)))))))
      (sfs_cons (sf_guard (st_cmp op_gtD (se_bltI imm_lenD cr_lenD (Z.free 4) boot_len (sa_cons (se_ovar 2) sa_nil)) (se_tabI (Z.exf 2) (Z.glo 21) (se_var 1))))
      (sfs_cons (sf_setF (Z.at 13 14 15) (se_var 1))
      (sfs_cons (sf_setF (Z.at 13 14 16) (SN.se (sn_listO 2 (Z.free 9))))
      (sfs_one (sf_setF (Z.at 13 14 17) (se_imm (se_bltI imm_lenD cr_lenD (Z.free 4) boot_len (sa_cons (se_ovar 2) sa_nil)))))))))), (Z.glo 13), (He.mkr_ok (Z.says.fact 29)), (F.bindsN fun _ _ _ _ _ _ us hl => match us, hl with | [_, _, _], _ => rfl)⟩
def N__law_told : List Str := ["_law_prime", "_law_names", "_law_given", "e", "_law_space"]
def F__law_told : Fn := fnc 2 5
    (sq (newE 2 (op1 listD (var 1)))
      (sq (tryC 3 (gAr G_Space___init__ (aC (var 0) (aC (ovar 2) aN))) (setEe 4 (mkOE "Space" F_O_Space___init__ (var 0) 2)))
      (sq (app 2 (cst (.str "late")))
      (rt (andV (boo (cmp eqD (fld ["Space"] "prime" (var 4)) (var 0))) (andV (boo (cmp eqD (fld ["Space"] "names" (var 4)) (var 1))) (boo (cmp eqD (fld ["Space"] "count" (var 4)) (cal (f1 lenD) (aC (var 1) aN))))))))))
theorem sc__law_told : FnScope N__law_told ["_law_prime", "_law_names"] (defScope (topS 22)) := ⟨rfl, rfl, rfl, by decide +kernel, rfl, by decide +kernel, by decide +kernel⟩
theorem ok__law_told (Z : ZF fa fn exl K mg) : CallOk P w K mg base 4 "_law_told" F__law_told := by
  obtain ⟨fd, F⟩ := Z.says.def_ 8 (d := d8)
  have sc := sc__law_told
  exact ⟨_, fd, _, fn_sound F sc fun cdv A outer s H hr =>
    (ss_cons (s_new sc.nd (sn_list (Z.free 9) (se_var 1)))
      (ss_cons (s_tryC (j := 3) (Z.exf 0) (Z.glo 10) (Z.glo 11) (Z.free 2) (Z.free 12) (fun pn xe => s_setEe sc.nd (ee_makO (okO_Space___init__ Z) (hr.mono (by decide)) (se_var 0))) (fun W pn xe tk => sr_set (i := 4) sc.nd (er_mak (τ := true) (okR_Space___init__ Z) (hr.mono (by decide)) tk (sa_cons (se_var 0) (sa_cons (se_ovar 2) sa_nil)))) sc.nd)
      (ss_cons (s_app se_str)
      (ss_one (s_ret (se_and (se_cmp (op_eqDD hr.units) (se_fld (at_cons (Z.at 13 14 15) at_nil) (se_var 4)) (se_var 0)) (se_and (se_cmp (op_eqDD hr.units) (se_fld (at_cons (Z.at 13 14 16) at_nil) (se_var 4)) (se_var 1)) (se_one (se_cmp (op_eqDD hr.units) (se_fld (at_cons (Z.at 13 14 17) at_nil) (se_var 4)) (se_bltI imm_lenD cr_lenD (Z.free 4) boot_len (sa_cons (se_var 1) sa_nil))))))))))), (Z.glo 30), F.kp, (F.bindsN fun _ _ _ _ _ _ us hl => match us, hl with | [_, _], _ => rfl)⟩
def N__law_makes : List Str := ["_law_prime", "_law_names", "_law_name"]
def F__law_makes : Fn := fnc 2 3
    (sq (ifS (orT (cmp (neg inL) (var 0) (lstE (aC (cst (.int 2)) (aC (cst (.int 3)) (aC (cst (.int 5)) (aC (cst (.int 7)) aN)))))) (orT (cmp eqD (cal (f1 lenD) (aC (var 1) aN)) (cst (.int 0))) (orT (cmp (flip ltD) (cal (f1 lenD) (aC (var 1) aN)) (cst (.int 8))) (cmp ltD (op1 lenSet (var 1)) (cal (f1 lenD) (aC (var 1) aN))))))
      (rt (cst (.bl false)))
      skip)
      (rt (andV (cal (f1 allL) (aC (lcE (iLst (var 1)) (.n 2) yes (cal F__law_is_name (aC (var 2) aN)) [2]) aN)) (boo (cmp leD (cal (f1 lenD) (aC (var 1) aN)) (op2 getD (lstE (aC (cst (.int 0)) (aC (cst (.int 0)) (aC (cst (.int 8)) (aC (cst (.int 5)) (aC (cst (.int 0)) (aC (cst (.int 3)) (aC (cst (.int 0)) (aC (cst (.int 2)) aN))))))))) (var 0)))))))
theorem sc__law_makes : FnScope N__law_makes ["_law_prime", "_law_names"] (defScope (topS 21)) := ⟨rfl, rfl, rfl, by decide +kernel, rfl, by decide +kernel, by decide +kernel⟩
theorem ok__law_makes (Z : ZF fa fn exl K mg) : CallOk P w K mg base 2 "_law_makes" F__law_makes := by
  obtain ⟨fd, F⟩ := Z.says.def_ 9 (d := d9)
  have sc := sc__law_makes
  exact ⟨_, fd, _, fn_sound F sc fun cdv A outer s H hr =>
    (ss_cons (s_if (SWd.st (sw_or (st_cmp (op_ninLD (hu65 hr)) (se_var 0) (SN.se (sn_lst (sa_cons se_int (sa_cons se_int (sa_cons se_int (sa_cons se_int sa_nil))))))) (sw_or (st_cmp (op_eqDD hr.units) (se_bltI imm_lenD cr_lenD (Z.free 4) boot_len (sa_cons (se_var 1) sa_nil)) se_int) (sw_or (st_cmp op_gtD (se_bltI imm_lenD cr_lenD (Z.free 4) boot_len (sa_cons (se_var 1) sa_nil)) se_int) (sw_or1 (st_cmp op_ltD (se_lenSet rfl (Z.free 4) (Z.free 20) (se_var 1)) (se_bltI imm_lenD cr_lenD (Z.free 4) boot_len (sa_cons (se_var 1) sa_nil))))))))
      (ss_one (s_ret se_bl))
      ss_nil)
      (ss_one (s_ret (se_and (se_bltI imm_allL (cr_allL rfl) (Z.free 8) boot_all (sa_cons (SN.se (sn_lc rfl sc.nd (si_list (se_var 1)) (blkOk_by (own := [("_law_name", 2)]) (N := N__law_makes) (sc := defScope (topS 21)) (by decide +kernel)) (fun _ _ _ _ _ => (g_n 2 sc.nd)) (fun _ _ _ _ _ => (se_cal (ok__law_is_name Z) (hr.mono (by decide)) (sa_cons (se_var 2) sa_nil))))) sa_nil)) (se_one (se_cmp op_leD (se_bltI imm_lenD cr_lenD (Z.free 4) boot_len (sa_cons (se_var 1) sa_nil)) (se_get (SN.se (sn_lst (sa_cons se_int (sa_cons se_int (sa_cons se_int (sa_cons se_int (sa_cons se_int (sa_cons se_int (sa_cons se_int (sa_cons se_int sa_nil)))))))))) (se_var 0)))))))), (Z.glo 31), F.kp, (F.bindsN fun _ _ _ _ _ _ us hl => match us, hl with | [_, _], _ => rfl)⟩
def N_law : List Str := ["_law_script", "_law_prime", "_law_number", "_law_words", "_law_word_here", "_law_digits_here", "_law_menu", "_law_k", "_law_other", "_law_told_here", "_law_start", "_law_names", "_law_j"]
def F_law : Fn := fnc 1 13
    (sq (setE 1 (op2 getD (lstE (aC (cst (.int 2)) (aC (cst (.int 3)) (aC (cst (.int 5)) (aC (cst (.int 7)) aN))))) (op2 modD (cal (f1 intD) (aC (cal F__law_cell (aC (var 0) (aC (cst (.int 0)) aN))) aN)) (cst (.int 4)))))
      (sq (forE (iRng (two2 (aC (cst (.int 1)) (aC (var 1) aN)))) (.n 2)
      (sq (setE 8 (cal F_inverse (aC (var 1) (aC (var 2) aN))))
      (ifS (orT (notT (tes (op1 isIntD (var 8)))) (orT (notT (chn ltD ltD (cst (.int 0)) (var 8) (var 1))) (cmp (neg eqD) (op2 modD (cal (f1 intD) (aC (op2 mulD (var 2) (var 8)) aN)) (var 1)) (cst (.int 1)))))
      (rt (cst (.bl false)))
      skip)))
      (sq (setE 3 (lcE (iRng (one1 (aC (cst (.int 12)) aN))) (.n 7) yes (cal F__law_word (aC (op2 addD (cal F__law_cell (aC (var 0) (aC (op2 addD (cst (.int 1)) (var 7)) aN))) (var 7)) aN)) [7]))
      (sq (forE (iLst (var 3)) (.n 4)
      (sq (setE 9 (cal F_is_name (aC (var 4) aN)))
      (ifS (orT (notT (tes (op1 isBool (var 9)))) (cmp (neg eqD) (var 9) (cal F__law_is_name (aC (var 4) aN))))
      (rt (cst (.bl false)))
      skip)))
      (sq (setE 5 (cal F__law_digits (aC (cal F__law_cell (aC (var 0) (aC (cst (.int 13)) aN))) (aC (cst (.int 420)) (aC (cst (.int 14)) aN)))))
      (sq (setE 6 (lstE (aC (cst (.str "x")) (aC (cst (.str "y")) (aC (cst (.str "z")) (aC (cst (.str "x1")) (aC (cst (.str "b")) (aC (cst (.str "word")) (aC (cst (.str "k9")) (aC (cst (.str "verylongname")) (aC (cst (.str "q")) aN)))))))))))
      (sq (forE (iRng (one1 (aC (cst (.int 6)) aN))) (.n 7)
      (sq (setE 10 (op2 modD (cal (f1 intD) (aC (op2 getD (var 5) (var 7)) aN)) (cst (.int 9))))
      (sq (newE 11 (lcE (iRng (one1 (aC (op2 modD (cal (f1 intD) (aC (op2 getD (var 5) (op2 addD (cst (.int 6)) (var 7))) aN)) (cst (.int 10))) aN))) (.n 12) yes (op2 getD (var 6) (op2 modD (cal (f1 intD) (aC (op2 addD (var 10) (var 12)) aN)) (cst (.int 9)))) [12]))
      (sq (ifS (andT (cmp eqD (op2 modD (cal (f1 intD) (aC (op2 getD (var 5) (cst (.int 12))) aN)) (cst (.int 3))) (cst (.int 1))) (cmp (flip ltD) (cal (f1 lenD) (aC (ovar 11) aN)) (cst (.int 0))))
      (stL 11 (op2 modD (cal (f1 intD) (aC (op2 getD (var 5) (cst (.int 13))) aN)) (cal (f1 lenD) (aC (ovar 11) aN))) (op2 getD (var 3) (var 7)))
      skip)
      (forE (iLst (lstE (aC (op2 subD (cst (.int 0)) (cst (.int 1))) (aC (cst (.int 0)) (aC (cst (.int 1)) (aC (cst (.int 2)) (aC (cst (.int 3)) (aC (cst (.int 4)) (aC (cst (.int 5)) (aC (cst (.int 6)) (aC (cst (.int 7)) (aC (cst (.int 9)) (aC (cst (.int 11)) aN))))))))))))) (.n 2)
      (ifS (cmp (neg eqD) (cal F__law_told (aC (var 2) (aC (ovar 11) aN))) (cal F__law_makes (aC (var 2) (aC (ovar 11) aN))))
      (rt (cst (.bl false)))
      skip))))))
      (rt (cst (.bl true))))))))))
theorem sc_law : FnScope N_law ["_law_script"] (defScope (topS 23)) := ⟨rfl, rfl, rfl, by decide +kernel, rfl, by decide +kernel, by decide +kernel⟩
theorem ok_law (Z : ZF fa fn exl K mg) : ∃ fd : FuncData, FunD K d10.name d10.qual d10.params d10.body d10.scope [] [] (He.fAd K d10.at_) fd ∧ ∀ base : Heap, FnOk P w K mg base CX0 5 (He.fAd K d10.at_) fd ["_law_script"] (spD mg F_law) := by
  obtain ⟨fd, F⟩ := Z.says.def_ 10 (d := d10)
  have sc := sc_law
  exact ⟨fd, F, fun base => fn_sound F sc fun cdv A outer s H hr =>
    (ss_cons (s_set sc.nd (se_get (SN.se (sn_lst (sa_cons se_int (sa_cons se_int (sa_cons se_int (sa_cons se_int sa_nil)))))) (se_op2 op_modD (se_btyI imm_intD cr_intD (Z.free 0) PyProof.Rows.boot_int (sa_cons (se_cal (ok__law_cell Z) (hr.mono (by decide)) (sa_cons (se_var 0) (sa_cons se_int sa_nil))) sa_nil)) se_int)))
      (ss_cons (s_for PassesOwn.never rfl (si_rng2 (Z.free 1) (sa_cons se_int (sa_cons (se_var 1) sa_nil))) (g_n 2 sc.nd)
      (ss_cons (s_set sc.nd (se_cal (ok_inverse Z) (hr.mono (by decide)) (sa_cons (se_var 1) (sa_cons (se_var 2) sa_nil))))
      (ss_one (s_if (SWd.st (sw_or (st_not (st_tes (se_isInt (Z.free 2) (Z.free 0) (se_var 8)))) (sw_or (st_not (st_chn op_ltD op_ltD se_int (se_var 8) (se_var 1))) (sw_or1 (st_cmp (op_neDD hr.units) (se_op2 op_modD (se_btyI imm_intD cr_intD (Z.free 0) PyProof.Rows.boot_int (sa_cons (se_op2 op_mulD (se_var 2) (se_var 8)) sa_nil)) (se_var 1)) se_int)))))
      (ss_one (s_ret se_bl))
      ss_nil))))
      (ss_cons (s_setLc rfl sc.nd (sw_true rfl rfl rfl (by decide +kernel)) (si_rng1 (Z.free 1) (sa_cons se_int sa_nil)) (blkOk_by (own := [("_law_k", 7)]) (N := N_law) (sc := defScope (topS 23)) (by decide +kernel)) (fun _ _ _ _ _ => (g_n 7 sc.nd)) (fun _ _ _ _ _ => (se_cal (ok__law_word Z) (hr.mono (by decide)) (sa_cons (se_op2 op_addD (se_cal (ok__law_cell Z) (hr.mono (by decide)) (sa_cons (se_var 0) (sa_cons (se_op2 op_addD se_int (se_var 7)) sa_nil))) (se_var 7)) sa_nil))))
      (ss_cons (s_for PassesOwn.never rfl (si_list (se_var 3)) (g_n 4 sc.nd)
      (ss_cons (s_set sc.nd (se_cal (ok_is_name Z) (hr.mono (by decide)) (sa_cons (se_var 4) sa_nil)))
      (ss_one (s_if (SWd.st (sw_or (st_not (st_tes (st_isBool (Z.free 2) (Z.free 3) (se_var 9)))) (sw_or1 (st_cmp (op_neDD hr.units) (se_var 9) (se_cal (ok__law_is_name Z) (hr.mono (by decide)) (sa_cons (se_var 4) sa_nil))))))
      (ss_one (s_ret se_bl))
      ss_nil))))
      (ss_cons (s_set sc.nd (se_cal (ok__law_digits Z) (hr.mono (by decide)) (sa_cons (se_cal (ok__law_cell Z) (hr.mono (by decide)) (sa_cons (se_var 0) (sa_cons se_int sa_nil))) (sa_cons se_int (sa_cons se_int sa_nil)))))
      (ss_cons (s_set sc.nd (SN.se (sn_lst (sa_cons se_str (sa_cons se_str (sa_cons se_str (sa_cons se_str (sa_cons se_str (sa_cons se_str (sa_cons se_str (sa_cons se_str (sa_cons se_str sa_nil))))))))))))
      (ss_cons (s_for PassesOwn.never rfl (si_rng1 (Z.free 1) (sa_cons se_int sa_nil)) (g_n 7 sc.nd)
      (ss_cons (s_set sc.nd (se_op2 op_modD (se_btyI imm_intD cr_intD (Z.free 0) PyProof.Rows.boot_int (sa_cons (se_get (se_var 5) (se_var 7)) sa_nil)) se_int))
      (ss_cons (s_newLc rfl sc.nd (sw_true rfl rfl rfl (by decide +kernel)) (si_rng1 (Z.free 1) (sa_cons (se_op2 op_modD (se_btyI imm_intD cr_intD (Z.free 0) PyProof.Rows.boot_int (sa_cons (se_get (se_var 5) (se_op2 op_addD se_int (se_var 7))) sa_nil)) se_int) sa_nil)) (blkOk_by (own := [("_law_j", 12)]) (N := N_law) (sc := defScope (topS 23)) (by decide +kernel)) (fun _ _ _ _ _ => (g_n 12 sc.nd)) (fun _ _ _ _ _ => (se_get (se_var 6) (se_op2 op_modD (se_btyI imm_intD cr_intD (Z.free 0) PyProof.Rows.boot_int (sa_cons (se_op2 op_addD (se_var 10) (se_var 12)) sa_nil)) se_int))))
      (ss_cons (s_if (SWd.st (sw_and (st_cmp (op_eqDD hr.units) (se_op2 op_modD (se_btyI imm_intD cr_intD (Z.free 0) PyProof.Rows.boot_int (sa_cons (se_get (se_var 5) se_int) sa_nil)) se_int) se_int) (sw_and1 (st_cmp op_gtD (se_bltI imm_lenD cr_lenD (Z.free 4) boot_len (sa_cons (se_ovar 11) sa_nil)) se_int))))
      (ss_one (s_stL (se_op2 op_modD (se_btyI imm_intD cr_intD (Z.free 0) PyProof.Rows.boot_int (sa_cons (se_get (se_var 5) se_int) sa_nil)) (se_bltI imm_lenD cr_lenD (Z.free 4) boot_len (sa_cons (se_ovar 11) sa_nil))) (se_get (se_var 3) (se_var 7))))
      ss_nil)
      (ss_one (s_for PassesOwn.never rfl (si_list (SN.se (sn_lst (sa_cons (se_op2 op_subD se_int se_int) (sa_cons se_int (sa_cons se_int (sa_cons se_int (sa_cons se_int (sa_cons se_int (sa_cons se_int (sa_cons se_int (sa_cons se_int (sa_cons se_int (sa_cons se_int sa_nil)))))))))))))) (g_n 2 sc.nd)
      (ss_one (s_if (st_cmp (op_neDD hr.units) (se_cal (ok__law_told Z) (hr.mono (by decide)) (sa_cons (se_var 2) (sa_cons (se_ovar 11) sa_nil))) (se_cal (ok__law_makes Z) (hr.mono (by decide)) (sa_cons (se_var 2) (sa_cons (se_ovar 11) sa_nil))))
      (ss_one (s_ret se_bl))
      ss_nil))))))))
      (ss_one (s_ret se_bl)))))))))⟩
end

end PV

namespace PV
open PySem
def sqK (b : Sx) : DRes → Option DRes
  | .nx e => b e
  | .ret d => some (.ret d)
  | .bk e => some (.bk e)
  | .ct e => some (.ct e)
def ifK (a b : Sx) (e : DEnv) : Bool → Option DRes
  | true => a e
  | false => b e
def ifX (a b : Ex) (e : DEnv) : Bool → Option D
  | true => a e
  | false => b e
def ifT (a b : Tx) (e : DEnv) : Bool → Option Bool
  | true => a e
  | false => b e
def fncK : DRes → Option D
  | .ret d => some d
  | .nx _ => some .non
  | _ => none
def iniK (c : Str) : DRes → Option D
  | .nx e => match (e[0]? : Option DSlot) with
    | some (DSlot.slf (D.ins c' fs xs)) => if c' = c then some (.ins c' fs xs) else none
    | _ => none
  | _ => none
def ctK : DRes → Option DRes
  | .ct e => some (.nx e)
  | r => some r
def lcK (ys : List D) : Option D := some (.lst ys)
def lstK : D → Option (List D)
  | .lst xs => some xs
  | _ => none
def tupK : D → Option (List D)
  | .tup xs => some xs
  | .ftup xs => some xs
  | _ => none
def blK : D → Option Bool
  | .bl b => some b
  | _ => none
def ovK : DSlot → Option D
  | .own d => some d
  | _ => none
def vaK : DSlot → Option D
  | .val d => some d
  | _ => none
theorem sqK_nx {b : Sx} {e} : sqK b (.nx e) = b e := rfl
theorem sqK_ret {b : Sx} {d} : sqK b (.ret d) = some (.ret d) := rfl
theorem sqK_bk {b : Sx} {e} : sqK b (.bk e) = some (.bk e) := rfl
theorem sqK_ct {b : Sx} {e} : sqK b (.ct e) = some (.ct e) := rfl
theorem ifK_t {a b : Sx} {e} : ifK a b e true = a e := rfl
theorem ifK_f {a b : Sx} {e} : ifK a b e false = b e := rfl
theorem ifX_t {a b : Ex} {e} : ifX a b e true = a e := rfl
theorem ifX_f {a b : Ex} {e} : ifX a b e false = b e := rfl
theorem ifT_t {a b : Tx} {e} : ifT a b e true = a e := rfl
theorem ifT_f {a b : Tx} {e} : ifT a b e false = b e := rfl
theorem fncK_ret {d} : fncK (.ret d) = some d := rfl
theorem fncK_nx {e} : fncK (.nx e) = some .non := rfl
theorem ctK_nx {e} : ctK (.nx e) = some (.nx e) := rfl
theorem ctK_ct {e} : ctK (.ct e) = some (.nx e) := rfl
theorem ctK_ret {d} : ctK (.ret d) = some (.ret d) := rfl
theorem lcK_e {ys} : lcK ys = some (.lst ys) := rfl
theorem lstK_e {ys} : lstK (.lst ys) = some ys := rfl
theorem tupK_e {ys} : tupK (.tup ys) = some ys := rfl
theorem tupK_f {ys} : tupK (.ftup ys) = some ys := rfl
theorem blK_e {b} : blK (.bl b) = some b := rfl
theorem ovK_e {d} : ovK (.own d) = some d := rfl
theorem vaK_e {d} : vaK (.val d) = some d := rfl
theorem sq_e {a b : Sx} {e} : sq a b e = (a e).bind (sqK b) := by
  unfold sq; congr; funext r; cases r <;> rfl
theorem skip_e {e} : skip e = some (.nx e) := rfl
theorem setE_e {a : Ex} {e} : setE i a e = (a e).bind fun d => some (.nx (e.set i (.val d))) := rfl
theorem newE_e {a : Ex} {e} : newE i a e = (a e).bind fun d => some (.nx (e.set i (.own d))) := rfl
theorem rt_e {a : Ex} {e} : rt a e = (a e).bind fun d => some (.ret d) := rfl
theorem brk_e {e} : brk e = some (.bk e) := rfl
theorem cnt_e {e} : cnt e = some (.ct e) := rfl
theorem ifS_e {t : Tx} {a b : Sx} {e} : ifS t a b e = (t e).bind (ifK a b e) := by
  unfold ifS; congr; funext c; cases c <;> rfl
theorem ife_e {t : Tx} {a b : Ex} {e} : ife t a b e = (t e).bind (ifX a b e) := by
  unfold ife; congr; funext c; cases c <;> rfl
theorem var_e {e : DEnv} : var i e = (e[i]?).bind vaK := by
  unfold var; cases e[i]? with
  | none => rfl
  | some s => cases s <;> rfl
theorem ovar_e {e : DEnv} : ovar i e = (e[i]?).bind ovK := by
  unfold ovar; cases e[i]? with
  | none => rfl
  | some s => cases s <;> rfl
theorem cst_e {e} : cst d e = some d := rfl
theorem imm_e {a : Ex} {e} : imm a e = (a e).bind fun d => if d.imm then some d else none := rfl
theorem op1_e {a : Ex} {e} : op1 f a e = (a e).bind f := rfl
theorem op2_e {a b : Ex} {e} : op2 f a b e = (a e).bind fun x => (b e).bind (f x) := rfl
theorem op3_e {a b c : Ex} {e} : op3 f a b c e = (a e).bind fun x => (b e).bind fun y => (c e).bind (f x y) := rfl
theorem aN_e {e} : aN e = some [] := rfl
theorem aC_e {a : Ex} {r : Ax} {e} : aC a r e = (a e).bind fun x => (r e).bind fun xs => some (x :: xs) := rfl
theorem tupE_e {a : Ax} {e} : tupE a e = (a e).bind fun xs => if xs.length ≤ szL then some (.tup xs) else none := rfl
theorem lstE_e {a : Ax} {e} : lstE a e = (a e).bind fun xs => if xs.length ≤ szL then some (.lst xs) else none := rfl
theorem cal_e {f : Fn} {a : Ax} {e} : cal f a e = (a e).bind f := rfl
theorem f1_e {f : D → Option D} {d} : f1 f [d] = f d := rfl
theorem cmp_e {f : D → D → Option Bool} {a b : Ex} {e} : cmp f a b e = (a e).bind fun x => (b e).bind (f x) := rfl
theorem flip_e {f : D → D → Option Bool} {x y} : flip f x y = f y x := rfl
theorem neg_e {f : D → D → Option Bool} {x y} : neg f x y = (f x y).map not := rfl
theorem chn_e {f g : D → D → Option Bool} {a b c : Ex} {e} : chn f g a b c e = (a e).bind fun x => (b e).bind fun y => (f x y).bind (ifT (fun e => (c e).bind fun z => g y z) (fun _ => some false) e) := by
  unfold chn; congr; funext x; congr; funext y; congr; funext r; cases r <;> rfl
theorem boo_e {t : Tx} {e} : boo t e = (t e).map D.bl := rfl
theorem tes_e {a : Ex} {e} : tes a e = (a e).bind blK := by
  unfold tes; congr
def ff : Tx := fun _ => some false
def tt : Tx := fun _ => some true
theorem ff_e {e} : ff e = some false := rfl
theorem tt_e {e} : tt e = some true := rfl
theorem andT_e {a b : Tx} {e} : andT a b e = (a e).bind (ifT b ff e) := by
  unfold andT; congr; funext c; cases c <;> rfl
theorem orT_e {a b : Tx} {e} : orT a b e = (a e).bind (ifT tt b e) := by
  unfold orT; congr; funext c; cases c <;> rfl
theorem notT_e {a : Tx} {e} : notT a e = (a e).map not := rfl
def fX : Ex := fun _ => some (.bl false)
def tX : Ex := fun _ => some (.bl true)
theorem fX_e {e} : fX e = some (.bl false) := rfl
theorem tX_e {e} : tX e = some (.bl true) := rfl
theorem andV_e {a b : Ex} {e} : andV a b e = ((a e).bind blK).bind (ifX b fX e) := by
  unfold andV
  cases a e with
  | none => rfl
  | some d => cases d with
    | bl c => cases c <;> rfl
    | _ => rfl
theorem orV_e {a b : Ex} {e} : orV a b e = ((a e).bind blK).bind (ifX tX b e) := by
  unfold orV
  cases a e with
  | none => rfl
  | some d => cases d with
    | bl c => cases c <;> rfl
    | _ => rfl
theorem notV_e {a : Ex} {e} : notV a e = ((a e).bind blK).map fun c => .bl (!c) := by
  unfold notV
  cases a e with
  | none => rfl
  | some d => cases d <;> rfl
theorem isN_e {a : Ex} {e} : isN a e = (a e).map isNonD := rfl
theorem yes_e {e} : yes e = some true := rfl
theorem asg_e {a : Ex} {e} : asg g a e = (a e).bind fun d => (gD g d e).bind fun e' => some (.nx e') := rfl
theorem gD_n {e} : gD (.n i) d e = some (e.set i (.val d)) := by unfold gD; rfl
theorem gD_t {e} : gD (.t l) (.tup xs) e = gDs l xs e := by unfold gD; rfl
theorem gDs_n {e} : gDs [] [] e = some e := by unfold gDs; rfl
theorem gDs_c {e} : gDs (g :: gs) (d :: ds) e = (gD g d e).bind (gDs gs ds) := by
  conv => lhs; unfold gDs
theorem frz_e {b : Sx} {e : DEnv} : frz j b e = ((e[j]?).bind ovK).bind fun d => b (e.set j (.val d)) := by
  unfold frz; cases e[j]? with
  | none => rfl
  | some s => cases s <;> rfl
theorem mov_e {e : DEnv} : mov i j e = ((e[j]?).bind ovK).bind fun d => some (.nx ((e.set j .no).set i (.val d))) := by
  unfold mov; cases e[j]? with
  | none => rfl
  | some s => cases s <;> rfl
theorem movO_e {e : DEnv} : movO i j e = ((e[j]?).bind ovK).bind fun d => some (.nx ((e.set j .no).set i (.own d))) := by
  unfold movO; cases e[j]? with
  | none => rfl
  | some s => cases s <;> rfl
theorem forE_e {it : Ax} {b : Sx} {e} : forE it g b e = (it e).bind fun xs => loop (gD g) b xs e := rfl
theorem iLst_e {a : Ex} {e} : iLst a e = (a e).bind lstK := by
  unfold iLst; congr
theorem iTp_e {a : Ex} {e} : iTp a e = (a e).bind tupK := by
  unfold iTp; congr
theorem iRng_e {a : Ax} {e} : iRng a e = (a e).bind rngL := rfl
theorem one1_c {a : Ex} {e} : one1 (aC a aN) e = (a e).bind fun x => some [x] := by
  simp only [one1, aC_e, aN_e, Option.bind_some]; cases a e <;> rfl
theorem two2_c {a b : Ex} {e} : two2 (aC a (aC b aN)) e = (a e).bind fun x => (b e).bind fun y => some [x, y] := by
  simp only [two2, aC_e, aN_e, Option.bind_some]
  cases a e with
  | none => rfl
  | some x => cases b e <;> rfl
theorem iZp_e {a : Ax} {e} : iZp a e = (a e).bind zipD := rfl
theorem lcE_e {it : Ax} {t : Tx} {a : Ex} {e} : lcE it g t a ws e = (it e).bind fun xs => if xs.length ≤ szL ∧ noOwn e ws = true then (lcRun (gD g) t a (wip e ws) xs).bind lcK else none := rfl
theorem lc2E_e {it it1 : Ax} {a : Ex} {e} : lc2E it g it1 g1 a ws ws1 e = (it e).bind fun xs => if noOwn e ws = true then (lc2Run (gD g) (gD g1) it1 a ws1 (wip e ws) xs).bind fun ys => if ys.length ≤ szL then some (.lst ys) else none else none := rfl
theorem wip_n {e} : wip e [] = e := rfl
theorem wip_c {e} : wip e (v :: vs) = (wip e vs).set v .no := rfl
def noO : Option DSlot → Bool
  | some DSlot.no => true
  | some (DSlot.val _) => true
  | _ => false
theorem noOwn_n {e} : noOwn e [] = true := rfl
theorem noOwn_c {e : DEnv} : noOwn e (v :: vs) = (noO e[v]? && noOwn e vs) := by
  simp only [noOwn, List.all_cons]; rfl
theorem noO_no : noO (some .no) = true := rfl
theorem noO_val : noO (some (.val d)) = true := rfl
theorem fnc_e {b : Sx} {ds} : fnc m n b ds = if ds.length = m then (b (ds.map DSlot.val ++ List.replicate (n - m) DSlot.no)).bind fncK else none := by
  unfold fnc; congr
theorem ini_e {b : Sx} {ds} : ini c m n b ds = if ds.length + 1 = m then (b (DSlot.slf (.ins c [] []) :: (ds.map DSlot.val ++ List.replicate (n - m) DSlot.no))).bind (iniK c) else none := by
  unfold ini; rfl
theorem met_e {o : Ex} {a : Ax} {e} : met l m o a e = (o e).bind fun d => (a e).bind fun ds => metD l m ds d := rfl
theorem fld_e {a : Ex} {e} : fld cs f a e = (a e).bind (attr cs f) := rfl
theorem slE_e {a : Ex} {e} : slE f a lo hi e = (a e).bind fun d => (lo e).bind fun l => (hi e).bind fun h => f l h d := rfl
def prK : D → Option (Option Int)
  | .int i => some (some i)
  | _ => none
theorem prK_e : prK (.int i) = some (some i) := rfl
theorem prt_e {a : Ex} {e} : prt a e = (a e).bind prK := by unfold prt; congr
theorem prN_e {e} : prN e = some none := rfl
theorem dic1_e {k v : Ex} {e} : dic1 k v e = (k e).bind fun x => (v e).bind fun y => if keyD true x then some (.dic true [x] [y]) else none := rfl
def appK (i : Nat) (d : D) (e : DEnv) : Option DSlot → Option DRes
  | some (DSlot.own (D.lst xs)) => if xs.length < szL then some (.nx (e.set i (.own (.lst (xs ++ [d]))))) else none
  | _ => none
theorem appK_e : appK i d e (some (.own (.lst xs))) = if xs.length < szL then some (.nx (e.set i (.own (.lst (xs ++ [d]))))) else none := rfl
theorem app_e {a : Ex} {e : DEnv} : app i a e = (a e).bind fun d => appK i d e e[i]? := by
  unfold app; congr
def extK (i : Nat) (d : D) (e : DEnv) : Option DSlot → Option DRes
  | some (DSlot.own (D.lst xs)) => match d with
    | .lst ys => if xs.length + ys.length ≤ szL then some (.nx (e.set i (.own (.lst (xs ++ ys))))) else none
    | _ => none
  | _ => none
theorem extK_e : extK i (.lst ys) e (some (.own (.lst xs))) = if xs.length + ys.length ≤ szL then some (.nx (e.set i (.own (.lst (xs ++ ys))))) else none := rfl
theorem ext_e {a : Ex} {e : DEnv} : ext i a e = (a e).bind fun d => extK i d e e[i]? := by
  unfold ext extK; congr; funext d
  cases e[i]? with
  | none => rfl
  | some s => cases s with
    | own x => cases x <;> cases d <;> rfl
    | _ => rfl
def stKK (i : Nat) (d kd : D) (e : DEnv) : Option DSlot → Option DRes
  | some (DSlot.own (D.dic t ks vs)) => if keyD t kd ∧ ks.length < szL ∧ ks.length = vs.length then some (.nx (e.set i (.own (.dic t (dput ks vs kd d).1 (dput ks vs kd d).2)))) else none
  | _ => none
theorem stK_e {a k : Ex} {e : DEnv} : stK i k a e = (a e).bind fun d => (k e).bind fun kd => stKK i d kd e e[i]? := by
  unfold stK; congr
def drpK (e : DEnv) : D → Option DRes
  | .lst xs => if xs.length < szL then some (.nx e) else none
  | _ => none
theorem drpA_e {a b : Ex} {e} : drpA a b e = (a e).bind fun d => (b e).bind fun _ => drpK e d := by
  unfold drpA; congr
theorem drpK_e : drpK e (.lst xs) = if xs.length < szL then some (.nx e) else none := rfl
theorem szL_le {n : Nat} (h : n ≤ 16777216) : (n ≤ szL) = True := eq_true h
theorem szL_lt {n : Nat} (h : n < 16777216) : (n < szL) = True := eq_true h
theorem addD_int : addD (.int a) (.int b) = some (.int (a + b)) := rfl
theorem addD_tup (h : a.length + b.length ≤ 16777216) : addD (.tup a) (.tup b) = some (.tup (a ++ b)) := by
  simp only [addD]; exact if_pos h
def catF (a b : List D) : D := if a.isEmpty then .ftup b else if b.isEmpty then .ftup a else .tup (a ++ b)
theorem tupK_cat : tupK (catF a b) = some (a ++ b) := by
  unfold catF
  split
  · rename_i h; rw [List.isEmpty_iff.mp h]; rfl
  · split
    · rename_i h; rw [List.isEmpty_iff.mp h, List.append_nil]; rfl
    · rfl
theorem addD_ff (h : a.length + b.length ≤ 16777216) : addD (.ftup a) (.ftup b) = some (catF a b) := by
  simp only [addD]; exact if_pos h
theorem addD_lst (h : a.length + b.length ≤ 16777216) : addD (.lst a) (.lst b) = some (.lst (a ++ b)) := by
  simp only [addD]; exact if_pos h
theorem subD_int : subD (.int a) (.int b) = some (.int (a - b)) := rfl
theorem b64_sm {a : Int} (h : -18446744073709551616 < a ∧ a < 18446744073709551616) : b64 a = true := b64_of h
theorem mulD_l (h : -18446744073709551616 < a ∧ a < 18446744073709551616) : mulD (.int a) (.int b) = some (.int (a * b)) := by
  simp only [mulD, b64_sm h, Bool.true_or, if_true]
theorem mulD_r (h : -18446744073709551616 < b ∧ b < 18446744073709551616) : mulD (.int a) (.int b) = some (.int (a * b)) := by
  simp only [mulD, b64_sm h, Bool.or_true, if_true]
theorem modD_int (h : 0 < b) : modD (.int a) (.int b) = some (.int (a % b)) := by
  simp only [modD]; exact if_pos h
theorem divD_int (h : 0 < b ∧ b < 1073741824) : divD (.int a) (.int b) = some (.int (a / b)) := by
  simp only [divD, h, decide_true, Bool.and_true, if_true]
theorem powD_18 : powD (.int 10) (.int 18) = some (.int 1000000000000000000) := by
  unfold powD; rfl
theorem intD_int : intD (.int a) = some (.int a) := rfl
theorem intD_bl : intD (.bl a) = some (.int (if a then 1 else 0)) := rfl
theorem ltD_int : ltD (.int a) (.int b) = some (decide (a < b)) := rfl
theorem leD_int : leD (.int a) (.int b) = some (decide (a ≤ b)) := rfl
theorem eqD_int : eqD (.int a) (.int b) = some (decide (a = b)) := by
  simp only [eqD, D.plain, D.eqv, Bool.and_self, if_true]; congr
theorem eqD_bl : eqD (.bl a) (.bl b) = some (a == b) := by
  simp only [eqD, D.plain, D.eqv, Bool.and_self, if_true]
theorem lenD_lst : lenD (.lst xs) = some (.int xs.length) := rfl
theorem lenD_tup : lenD (.tup xs) = some (.int xs.length) := rfl
theorem lenD_scr : lenD (.scr xs) = some (.int xs.length) := rfl
theorem ftupD_lst : ftupD (.lst xs) = some (.ftup xs) := rfl
theorem lenD_f : lenD (.ftup xs) = some (.int xs.length) := rfl
theorem ftupE_e {a : Ax} {e} : ftupE a e = (a e).bind fun xs => if xs.length ≤ szL then some (.ftup xs) else none := rfl
theorem tupD_lst : tupD (.lst xs) = some (.tup xs) := rfl
theorem listD_lst : listD (.lst xs) = some (.lst xs) := rfl
theorem listD_tup : listD (.tup xs) = some (.lst xs) := rfl
theorem revL_lst : revL (.lst xs) = some (.lst xs.reverse) := rfl
theorem isBool_bl : isBool (.bl b) = some (.bl true) := rfl
theorem getD_l {xs : List D} {i : Int} (h : 0 ≤ i) : getD (.lst xs) (.int i) = xs[i.toNat]? := by
  simp only [getD, PV.ixN, if_pos h]
  split
  · rfl
  · rw [List.getElem?_eq_none (by omega)]; rfl
theorem getD_t {xs : List D} {i : Int} (h : 0 ≤ i) : getD (.tup xs) (.int i) = xs[i.toNat]? := by
  simp only [getD, PV.ixN, if_pos h]
  split
  · rfl
  · rw [List.getElem?_eq_none (by omega)]; rfl
theorem getD_f {xs : List D} {i : Int} (h : 0 ≤ i) : getD (.ftup xs) (.int i) = xs[i.toNat]? := by
  simp only [getD, PV.ixN, if_pos h]
  split
  · rfl
  · rw [List.getElem?_eq_none (by omega)]; rfl
theorem getD_s {xs : List Int} {i : Int} (h : 0 ≤ i) : getD (.scr xs) (.int i) = (xs[i.toNat]?).map D.int := by
  simp only [getD, PV.ixN, if_pos h]
  split
  · rfl
  · rw [List.getElem?_eq_none (by omega)]; rfl
theorem rngL_n {n : Nat} (h : n < 4611686018427387904) : rngL [.int (n : Int)] = some ((List.range n).map fun (k : Nat) => D.int (k : Int)) := by
  have e1 : (-(2 ^ 62) : Int) ≤ (n : Int) := by omega
  have e2 : (n : Int) < 2 ^ 62 := by omega
  simp only [rngL, e1, e2, and_self, decide_true, if_true, Int.toNat_natCast]
theorem rngL_2 {m n : Int} (h : -4611686018427387904 ≤ m ∧ m < 4611686018427387904 ∧ -4611686018427387904 ≤ n ∧ n < 4611686018427387904) : rngL [.int m, .int n] = some ((List.range (n - m).toNat).map fun (k : Nat) => D.int (m + (k : Int))) := by
  simp only [rngL]
  rw [if_pos (by simpa using h)]
theorem rngL_i {n : Int} (h : -4611686018427387904 ≤ n ∧ n < 4611686018427387904) : rngL [.int n] = some ((List.range n.toNat).map fun (k : Nat) => D.int (k : Int)) := by
  have e1 : (-(2 ^ 62) : Int) ≤ n := by omega
  have e2 : n < 2 ^ 62 := by omega
  simp only [rngL, e1, e2, and_self, decide_true, if_true]
theorem sumL_ints {l : List Int} : sumL (.lst (l.map D.int)) = some (.int l.sum) := by
  have : ∀ l : List Int, intsOf (l.map D.int) = some l := fun l => by
    induction l with
    | nil => rfl
    | cons a l ih => simp [intsOf, ih]
  simp [sumL, this]
theorem intsOf_map : ∀ l : List Int, intsOf (l.map D.int) = some l := fun l => by
    induction l with
    | nil => rfl
    | cons a l ih => simp [intsOf, ih]
theorem sumT_tup {l : List Int} : sumT (.tup (l.map D.int)) = some (.int l.sum) := by
  simp [sumT, intsOf_map]
theorem sumT_lst {l : List Int} : sumT (.lst (l.map D.int)) = some (.int l.sum) := by
  simp [sumT, intsOf_map]
theorem blsOf_map : ∀ l : List Bool, blsOf (l.map D.bl) = some l := fun l => by
    induction l with
    | nil => rfl
    | cons a l ih => simp [blsOf, ih]
theorem allL_bls {l : List Bool} : allL (.lst (l.map D.bl)) = some (.bl (l.all id)) := by
  simp [allL, blsOf_map]
theorem anyL_bls {l : List Bool} : anyL (.lst (l.map D.bl)) = some (.bl (l.any id)) := by
  simp [anyL, blsOf_map]
theorem set_0 {s t : DSlot} {e : List DSlot} : (s :: e).set 0 t = t :: e := rfl
theorem set_s {s t : DSlot} {e : List DSlot} {n : Nat} : (s :: e).set (n + 1) t = s :: e.set n t := rfl
theorem max2_int : max2 [.int a, .int b] = some (.int (if b > a then b else a)) := rfl
theorem isBD_bl : isBD (.bl a) (.bl b) = some (a == b) := rfl
theorem revT_tup : revT (.tup xs) = some (.tup xs.reverse) := rfl
theorem iEnum_e {a : Ax} {e} : iEnum a e = (a e).bind enumD := rfl
theorem iItm_e {a : Ex} {e} : iItm a e = (a e).bind itemsD := rfl
theorem iZm_e {a : Ax} {e} : iZm a e = (a e).bind zipM := rfl
theorem addI_int : addI (.int a) (.int b) = some (.int (a + b)) := rfl
theorem subI_int : subI (.int a) (.int b) = some (.int (a - b)) := rfl
theorem isLst_l : isLst (.lst xs) = some (.bl true) := rfl
theorem isC_i : isC c (.ins c fs xs) = some (.bl true) := by simp [isC]
theorem iSq_e {a : Ex} {e} : iSq a e = (a e).bind seqK := rfl
theorem seqK_t : seqK (.tup xs) = some xs := rfl
theorem seqK_l : seqK (.lst xs) = some xs := rfl
theorem dcE_e {it : Ax} {kx vx : Ex} {e} : dcE t it g kx vx ws e = (it e).bind fun xs => if xs.length ≤ szL ∧ noOwn e ws = true then (dcRun t (gD g) kx vx (wip e ws) xs [] []).bind fun r => some (.dic t r.1 r.2) else none := rfl
theorem lcRun_m {α β : Type} {g : Gx} {a : Ex} {e0 : DEnv} {enc : α → D} {enc' : β → D} (f : α → β) : ∀ {xs : List α}, (∀ x ∈ xs, (g (enc x) e0).bind a = some (enc' (f x))) → lcRun g yes a e0 (xs.map enc) = some ((xs.map f).map enc')
  | [], _ => rfl
  | x :: xs, h => by
    have h1 := h x List.mem_cons_self
    have h2 := lcRun_m f (xs := xs) fun y hy => h y (List.mem_cons_of_mem _ hy)
    rw [List.map_cons, List.map_cons, List.map_cons]
    unfold lcRun
    cases hg : g (enc x) e0 with
    | none => simp [hg] at h1
    | some e1 =>
      rw [hg, Option.bind_some] at h1
      simp [yes, h1, h2]
def lcT (a : Ex) (e : DEnv) : Bool → Option (Option D)
  | true => (a e).map some
  | false => some none
theorem lcT_t {a : Ex} {e} : lcT a e true = (a e).map some := rfl
theorem lcT_f {a : Ex} {e} : lcT a e false = some none := rfl
end PV

namespace PV
open PySem
theorem loop_ix {α : Type} {g : Gx} {b : Sx} {enc : α → D} (P : Nat → DEnv → Prop) : ∀ (xs : List α) (e : DEnv) (n : Nat), P n e → (∀ i x e, xs[i]? = some x → P (n + i) e → ∃ e2, ((g (enc x) e).bind b).bind ctK = some (.nx e2) ∧ P (n + i + 1) e2) → ∃ e', loop g b (xs.map enc) e = some (.nx e') ∧ P (n + xs.length) e'
  | [], e, n, h, _ => ⟨e, rfl, h⟩
  | x :: xs, e, n, h, st => by
    obtain ⟨e2, h1, h3⟩ := st 0 x e rfl h
    obtain ⟨e', h4, h5⟩ := loop_ix P xs e2 (n + 1) h3 fun i y e hy hp => by
      have := st (i + 1) y e (by simpa using hy) (by rw [show n + (i + 1) = n + 1 + i by omega]; exact hp)
      rw [show n + (i + 1) + 1 = n + 1 + i + 1 by omega] at this
      exact this
    refine ⟨e', ?_, by rw [List.length_cons, show n + (xs.length + 1) = n + 1 + xs.length by omega]; exact h5⟩
    rw [List.map_cons, ← h4]
    conv => lhs; unfold loop
    cases hg : g (enc x) e with
    | none => simp [hg] at h1
    | some e1 =>
      rw [hg, Option.bind_some] at h1
      rw [Option.bind_some]
      cases hb : b e1 with
      | none => simp [hb] at h1
      | some r =>
        rw [hb, Option.bind_some] at h1
        rw [Option.bind_some]
        cases r <;> simp [ctK] at h1 <;> simp [h1]
theorem loop_o {α : Type} {g : Gx} {b : Sx} {enc : α → D} {xs : List α} {e0 : DEnv} {o : Option DRes} (hl : loop g b (xs.map enc) e0 = o) (P : Nat → DEnv → Prop) (hi : P 0 e0) (h : ∀ i x e, xs[i]? = some x → P i e → ∃ e2, ((g (enc x) e).bind b).bind ctK = some (.nx e2) ∧ P (i + 1) e2) :
    ∃ e, o = some (.nx e) ∧ P xs.length e := by
  obtain ⟨e', h1, h2⟩ := loop_ix (g := g) (b := b) (enc := enc) P xs e0 0 hi fun i x e h1 h2 => by
    rw [Nat.zero_add] at h2 ⊢; exact h i x e h1 h2
  exact ⟨e', hl.symm.trans h1, by rw [Nat.zero_add] at h2; exact h2⟩
theorem loop_p {α : Type} {g : Gx} {b : Sx} {enc : α → D} {xs : List α} {e0 : DEnv} {o : Option DRes} (hl : loop g b (xs.map enc) e0 = o) (P : List α → DEnv → Prop) (hi : P [] e0)
    (h : ∀ pre x e, x ∈ xs → pre.length < xs.length → P pre e → ∃ e2, ((g (enc x) e).bind b).bind ctK = some (.nx e2) ∧ P (pre ++ [x]) e2) :
    ∃ e, o = some (.nx e) ∧ P xs e := by
  obtain ⟨e, h1, h2⟩ := loop_o hl (fun i e => P (xs.take i) e) (by simpa using hi) (by
    intro i x e hx hp
    obtain ⟨hx1, hx2⟩ := List.getElem?_eq_some_iff.mp hx
    have h3 := h (xs.take i) x e (by rw [← hx2]; exact List.getElem_mem hx1) (by rw [List.length_take]; omega) hp
    rw [List.take_succ, hx]
    exact h3)
  exact ⟨e, h1, by simpa using h2⟩
theorem stp {X : Option DRes} {P : DEnv → Prop} {e2 : DEnv} (h1 : X = some (.nx e2)) (h2 : P e2) : ∃ e2, X = some (.nx e2) ∧ P e2 := ⟨e2, h1, h2⟩
abbrev nD (n : Nat) : D := .int (n : Int)
abbrev iD (l : List Int) : D := .tup (l.map .int)
abbrev Poly := List (List Int × Int)
abbrev rowD (r : List Int × Int) : D := .tup [iD r.1, .int r.2]
abbrev pD (f : Poly) : D := .ftup (f.map rowD)
theorem msI {L : List Int} {x : Int} : L.map D.int ++ [D.int x] = (L ++ [x]).map D.int := by simp
theorem msT {L : List (List Int)} {x : List Int} : L.map iD ++ [iD x] = (L ++ [x]).map iD := by simp
theorem maT {L M : List (List Int)} : L.map iD ++ M.map iD = (L ++ M).map iD := by simp
theorem maI {L M : List Int} : L.map D.int ++ M.map D.int = (L ++ M).map D.int := by simp
theorem msP {L : List Poly} {x : Poly} : L.map pD ++ [pD x] = (L ++ [x]).map pD := by simp
theorem maR {L M : Poly} : L.map rowD ++ M.map rowD = (L ++ M).map rowD := by simp
theorem plains_all {n : Nat} : ∀ {ds : List D}, (∀ d ∈ ds, d.plain n = true) → D.plains n ds = true
  | [], _ => by simp [D.plains]
  | d :: ds, h => by
    simp only [D.plains, Bool.and_eq_true]
    exact ⟨h d List.mem_cons_self, plains_all fun x hx => h x (List.mem_cons_of_mem _ hx)⟩
mutual
theorem eqv_refl : ∀ {n : Nat} {d : D}, d.plain n = true → D.eqv d d = true
  | _, .non, _ => rfl
  | _, .bl b, _ => by simp [D.eqv]
  | _, .int _, _ => by simp [D.eqv]
  | _, .str _, _ => by simp [D.eqv]
  | 0, .tup _, h => by simp [D.plain] at h
  | 0, .lst _, h => by simp [D.plain] at h
  | 0, .ftup _, h => by simp [D.plain] at h
  | n + 1, .ftup xs, h => by
    simp only [D.plain] at h
    simp only [D.eqv]
    exact eqvs_refl h
  | n + 1, .tup xs, h => by
    simp only [D.plain] at h
    simp only [D.eqv]
    exact eqvs_refl h
  | n + 1, .lst xs, h => by
    simp only [D.plain] at h
    simp only [D.eqv]
    exact eqvs_refl h
  | _, .dic _ _ _, h => by simp [D.plain] at h
  | _, .ins _ _ _, h => by simp [D.plain] at h
  | _, .scr _, h => by simp [D.plain] at h
theorem eqvs_refl : ∀ {n : Nat} {ds : List D}, D.plains n ds = true → D.eqvs ds ds = true
  | _, [], _ => rfl
  | _, d :: ds, h => by
    simp only [D.plains, Bool.and_eq_true] at h
    simp only [D.eqvs, Bool.and_eq_true]
    exact ⟨eqv_refl h.1, eqvs_refl h.2⟩
end
theorem eqD_refl {d : D} (h : d.plain 60 = true) : eqD d d = some true := by
  simp only [eqD, h, eqv_refl h, Bool.and_self, if_true]
def put (m : Poly) (k : List Int) (v : Int) : Poly := if (m.lookup k).isSome then m.map (fun r => if r.1 = k then (r.1, v) else r) else m ++ [(k, v)]
def Pw (p n : Nat) (k : List Int) : Prop := k.length = n ∧ ∀ x ∈ k, 0 ≤ x ∧ x < (p : Int)
theorem Pw.ne {p n : Nat} {k : List Int} (h : Pw p n k) (hn : 1 ≤ n) : k ≠ [] := fun e => by
  have := h.1
  rw [e] at this
  simp at this
  omega
def mk (p : Nat) (m : Poly) : Poly := (((m.map (·.1)).mergeSort lexLe).map fun k => (k, (m.lookup k).getD 0 % (p : Int))).reverse.filter fun r => r.2 ≠ 0
end PV

namespace PV
open PySem
local macro_rules | `(tactic| simp_arith [$args,*] $[$loc]?) => `(tactic| simp -implicitDefEqProofs (disch := first | omega | (simp only [List.length_map, List.length_cons, List.length_nil, List.length_append, List.length_range, List.length_replicate]; omega)) only [sq_e, sqK_nx, sqK_ret, sqK_bk, sqK_ct, skip_e, setE_e, newE_e, rt_e, brk_e, cnt_e, ifS_e, ifK_t, ifK_f, ifX_t, ifX_f, ifT_t, ifT_f, fncK_ret, fncK_nx, ctK_nx, ctK_ct, ctK_ret, lcK_e, lstK_e, tupK_e, tupK_f, tupK_cat, ftupD_lst, ftupE_e, lenD_f, getD_f, addD_ff, blK_e, ovK_e, vaK_e, ife_e, var_e, ovar_e, cst_e, op1_e, op2_e, op3_e, aN_e, aC_e, tupE_e, lstE_e, cal_e, f1_e, cmp_e, flip_e, neg_e, chn_e, boo_e, tes_e, ff_e, tt_e, andT_e, orT_e, notT_e, fX_e, tX_e, andV_e, orV_e, notV_e, isN_e, yes_e, asg_e, gD_n, gD_t, gDs_n, gDs_c, frz_e, mov_e, movO_e, forE_e, iLst_e, iTp_e, iRng_e, one1_c, two2_c, iZp_e, lcE_e, lc2E_e, wip_n, wip_c, noOwn_n, noOwn_c, noO_no, noO_val, fnc_e, ini_e, met_e, fld_e, slE_e, prK_e, prt_e, prN_e, dic1_e, appK_e, app_e, extK_e, ext_e, stK_e, drpA_e, drpK_e, addD_int, addD_tup, addD_lst, subD_int, mulD_l, mulD_r, modD_int, divD_int, intD_int, intD_bl, ltD_int, leD_int, eqD_int, eqD_bl, lenD_lst, lenD_tup, lenD_scr, tupD_lst, listD_lst, listD_tup, revL_lst, isBool_bl, max2_int, isBD_bl, revT_tup, iEnum_e, iItm_e, iSq_e, isC_i, isLst_l, addI_int, subI_int, iZm_e, seqK_t, seqK_l, dcE_e, getD_l, getD_t, getD_s, rngL_n, rngL_i, rngL_2, sumL_ints, sumT_tup, sumT_lst, allL_bls, anyL_bls, lcT_t, lcT_f, set_0, set_s, szL_le, szL_lt, Option.bind_some, Option.map_some, List.map_cons, List.map_nil, List.length_cons, List.length_nil, List.length_map, List.length_range, List.getElem?_cons_zero, List.getElem?_cons_succ, List.getElem?_map, List.replicate_succ, List.replicate_zero, List.cons_append, List.nil_append, if_true, if_false, ite_true, ite_false, Bool.and_true, Bool.true_and, Bool.and_self, and_true, true_and, and_self, decide_true, decide_false, Bool.not_true, Bool.not_false, eq_self, Int.toNat_natCast, Int.toNat_zero, Nat.reduceAdd, Nat.reduceSub, Nat.reduceLeDiff, Nat.reduceMul, Nat.reduceEqDiff, Int.reduceToNat, Nat.zero_add, Nat.reduceLT, Int.reduceLT, Int.reduceLE, Int.reduceEq, Int.reduceNe, Int.reduceMul, Int.reduceAdd, Int.reducePow, Bool.false_eq_true, reduceCtorEq, not_true_eq_false, not_false_eq_true, ne_eq, Option.getD_some, if_pos, List.length_append, List.length_replicate, msI, maI, msT, maT, msP, maR, $args,*] $[$loc]?)
theorem cell_eq (ns : List Int) (k : Nat) : F__law_cell [.scr ns, .int k] = some (.int (ns.getD k 0)) := by
  unfold F__law_cell
  by_cases h : k < ns.length
  · have h1 : ns[k]? = some ns[k] := List.getElem?_eq_getElem h
    have h2 : ((k : Int) < (ns.length : Int)) := by omega
    simp_arith [h2, h1]
    simp [h]
  · have h1 : ns[k]? = none := List.getElem?_eq_none (by omega)
    have h2 : ¬ ((k : Int) < (ns.length : Int)) := by omega
    simp_arith [h2]
    simp [h1]

theorem digits_eq (c m : Int) (n : Nat) (hm : 1 ≤ m ∧ m ≤ 100000) (hn : n ≤ 1000) : ∃ L : List Int, F__law_digits [.int c, D.int m, nD n] = some (.lst (L.map .int)) ∧ L.length = n ∧ ∀ d ∈ L, 0 ≤ d ∧ d < m := by
  unfold F__law_digits
  simp_arith []
  have key : ∀ x : Int, 0 ≤ x % m ∧ x % m < m := fun x => ⟨Int.emod_nonneg _ (by omega), Int.emod_lt_of_pos _ (by omega)⟩
  generalize hl : loop _ _ _ _ = o
  obtain ⟨e, rfl, L, r, s5, s6, rfl, hL, hb⟩ := loop_o hl (fun i e => ∃ (L : List Int) (r : Int) (s5 s6 : DSlot), e = [.val (.int c), .val (.int m), .val (nD n), .own (.lst (L.map .int)), .val (.int r), s5, s6] ∧ L.length = i ∧ ∀ d ∈ L, 0 ≤ d ∧ d < m)
    ⟨[], c, .no, .no, rfl, rfl, by simp⟩ (by
      rintro i k e hk ⟨L, r, s5, s6, rfl, hL, hb⟩
      have hi : i < n := by
        have := (List.getElem?_eq_some_iff.mp hk).1
        simpa using this
      have app : ∀ x : Int, ∀ d ∈ L ++ [x % m], 0 ≤ d ∧ d < m := fun x d hd => by
        rcases List.mem_append.mp hd with h | h
        · exact hb d h
        · rw [List.mem_singleton.mp h]; exact key x
      by_cases hc : (1000000000000000000 : Int) ≤ c
      · refine stp (by simp_arith [hc, powD_18, msI]; rfl) ?_
        exact ⟨_, _, _, _, rfl, by simp [hL], app r⟩
      · have h1 : (1000000000000000000 : Int) ≤ c ↔ False := iff_false_intro hc
        refine stp (by simp_arith [h1, powD_18, msI]; rfl) ?_
        exact ⟨_, _, _, _, rfl, by simp [hL], app _⟩)
  exact ⟨L, by simp_arith [], by simpa using hL, hb⟩

def txD (T : List Nat) : D := .str ⟨T.toArray⟩
theorem tx_get {T : List Nat} {k c : Nat} (hT : T.length ≤ 100000) (h : T[k]? = some c) : getD (txD T) (nD k) = some (txD [c]) := by
  obtain ⟨hk, rfl⟩ := List.getElem?_eq_some_iff.mp h
  have hz : (⟨T.toArray⟩ : Str).length ≤ szL := by show T.toArray.size ≤ szL; unfold szL; simp; omega
  have hx : ixN (⟨T.toArray⟩ : Str).length (k : Int) = some k := by
    unfold ixN
    have : (⟨T.toArray⟩ : Str).length = T.length := by show T.toArray.size = _; simp
    rw [this, if_pos (by omega), if_pos (by omega)]
    rfl
  show (if (⟨T.toArray⟩ : Str).length ≤ szL then _ else none) = _
  rw [if_pos hz]
  show (ixN (⟨T.toArray⟩ : Str).length (k : Int)).bind _ = _
  rw [hx, Option.bind_some]
  simp [txD, hk]
theorem tx_in {c : Nat} {A : List Nat} : inS (txD [c]) (txD A) = some (decide (c ∈ A)) := by
  simp [inS, txD]
def DG : List Nat := [48, 49, 50, 51, 52, 53, 54, 55, 56, 57]
def LTR : List Nat := (List.range 26).map fun k => 97 + k
theorem addT {a b : List Nat} (h : a.length + b.length ≤ 100000) : addD (txD a) (txD b) = some (txD (a ++ b)) := by
  have hl : (⟨a.toArray⟩ : Str).length + (⟨b.toArray⟩ : Str).length ≤ szL := by
    show a.toArray.size + b.toArray.size ≤ szL
    unfold szL; simp; omega
  show (if (⟨a.toArray⟩ : Str).length + (⟨b.toArray⟩ : Str).length ≤ szL then some (D.str (⟨a.toArray⟩ ++ ⟨b.toArray⟩)) else none) = _
  rw [if_pos hl]
  show some (D.str ⟨a.toArray ++ b.toArray⟩) = _
  unfold txD
  simp

theorem cut_fr {α : Type} {l : List α} {k : Nat} : cut l (some (k : Int)) none = l.drop k := by
  have h1 : six l.length 0 (some (k : Int)) = min k l.length := by
    show (if (k : Int) < 0 then ((k : Int) + (l.length : Int)).toNat else min (k : Int).toNat l.length) = _
    rw [if_neg (by omega)]; rfl
  have h2 : six l.length l.length none = l.length := rfl
  unfold cut
  rw [h1, h2, List.take_of_length_le (by rw [List.length_drop]; omega)]
  by_cases h : k ≤ l.length
  · rw [Nat.min_eq_left h]
  · rw [Nat.min_eq_right (by omega), List.drop_of_length_le (Nat.le_refl _), List.drop_of_length_le (by omega)]
theorem cut_up {α : Type} {l : List α} {k : Nat} (h : k ≤ l.length) : cut l none (some (k : Int)) = l.take k := by
  have h1 : six l.length l.length (some (k : Int)) = k := by
    show (if (k : Int) < 0 then ((k : Int) + (l.length : Int)).toNat else min (k : Int).toNat l.length) = k
    rw [if_neg (by omega)]; omega
  have h2 : six l.length 0 none = 0 := rfl
  unfold cut
  rw [h1, h2]
  rfl
theorem slT_up {l : List Nat} {k : Nat} (hl : l.length ≤ 100000) (h : k ≤ l.length) : slcT none (some (k : Int)) (txD l) = some (txD (l.take k)) := by
  show (if (⟨l.toArray⟩ : Str).length ≤ szL then some (D.str ⟨(cut l none (some (k : Int))).toArray⟩) else none) = _
  rw [if_pos (by show l.toArray.size ≤ szL; unfold szL; simp; omega), cut_up h]
  rfl
theorem slT_fr {l : List Nat} {k : Nat} (hl : l.length ≤ 100000) : slcT (some (k : Int)) none (txD l) = some (txD (l.drop k)) := by
  show (if (⟨l.toArray⟩ : Str).length ≤ szL then some (D.str ⟨(cut l (some (k : Int)) none).toArray⟩) else none) = _
  rw [if_pos (by show l.toArray.size ≤ szL; unfold szL; simp; omega), cut_fr]
  rfl
theorem len_t {s : List Nat} (h : s.length ≤ 1000000) : lenD (txD s) = some (nD s.length) := by
  simp [lenD, txD, Str.length]
  unfold szL
  omega
theorem emodN (x : Int) {m : Nat} (hm : 0 < m) : ∃ t : Nat, x % (m : Int) = (t : Int) ∧ t < m := by
  have h0 := Int.emod_nonneg x (show ((m : Int)) ≠ 0 by omega)
  have h1 := Int.emod_lt_of_pos x (show (0 : Int) < (m : Int) by omega)
  exact ⟨(x % (m : Int)).toNat, by omega, by omega⟩
def OTH : List Nat := [65, 90, 95, 32, 45, 46, 123, 47, 58, 64, 91, 94]
theorem lword_eq (c : Int) : ∃ w : List Nat, F__law_word [.int c] = some (txD w) ∧ w.length ≤ 14 ∧ ∀ x ∈ w, x < 128 := by
  obtain ⟨L, hd, hl, _⟩ := digits_eq c 1260 18 (by omega) (by omega)
  have hd : F__law_digits [.int c, .int 1260, .int 18] = some (.lst (L.map .int)) := hd
  have gL : ∀ k : Nat, k < 18 → getD (.lst (L.map .int)) (.int (k : Int)) = some (.int (L.getD k 0)) := fun k hk => by
    rw [getD_l (by omega)]
    simp [List.getD, List.getElem?_eq_getElem (show k < L.length by omega)]
  have gL0 : getD (.lst (L.map .int)) (.int 0) = some (.int (L.getD 0 0)) := gL 0 (by omega)
  have gL1 : getD (.lst (L.map .int)) (.int 1) = some (.int (L.getD 1 0)) := gL 1 (by omega)
  have gL2 : getD (.lst (L.map .int)) (.int 2) = some (.int (L.getD 2 0)) := gL 2 (by omega)
  have gL16 : getD (.lst (L.map .int)) (.int 16) = some (.int (L.getD 16 0)) := gL 16 (by omega)
  have gL17 : getD (.lst (L.map .int)) (.int 17) = some (.int (L.getD 17 0)) := gL 17 (by omega)
  obtain ⟨i, hi, hi6⟩ := emodN (L.getD 0 0) (m := 6) (by omega)
  have hi : L.getD 0 0 % 6 = (i : Int) := hi
  obtain ⟨n, hn, hn13⟩ : ∃ n : Nat, getD (.lst [.int 0, .int 1, .int 12, .int 13, .int 3, .int 2]) (nD i) = some (nD n) ∧ n ≤ 13 := by
    have : i = 0 ∨ i = 1 ∨ i = 2 ∨ i = 3 ∨ i = 4 ∨ i = 5 := by omega
    rcases this with rfl | rfl | rfl | rfl | rfl | rfl
    · exact ⟨0, rfl, by omega⟩
    · exact ⟨1, rfl, by omega⟩
    · exact ⟨12, rfl, by omega⟩
    · exact ⟨13, rfl, by omega⟩
    · exact ⟨3, rfl, by omega⟩
    · exact ⟨2, rfl, by omega⟩
  have hrg : rngL [nD n] = some ((List.range n).map fun (k : Nat) => D.int (k : Int)) := rngL_n (n := n) (by omega)
  have eA : (D.str "abcdefghijklmnopqrstuvwxyz0123456789") = txD (LTR ++ DG) := rfl
  have eO : (D.str "AZ_ -.{/:@\x5b^") = txD OTH := rfl
  have e0 : (D.str "") = txD [] := rfl
  have lA : (LTR ++ DG).length = 36 := rfl
  have sA : ∀ x ∈ LTR ++ DG, x < 128 := by decide +kernel
  have sO : ∀ x ∈ OTH, x < 128 := by decide
  unfold F__law_word
  simp -implicitDefEqProofs (disch := first | omega | (simp only [List.length_map, List.length_cons, List.length_nil, List.length_append, List.length_range, List.length_replicate]; omega)) only [sq_e, sqK_nx, sqK_ret, sqK_bk, sqK_ct, skip_e, setE_e, newE_e, rt_e, brk_e, cnt_e, ifS_e, ifK_t, ifK_f, ifX_t, ifX_f, ifT_t, ifT_f, fncK_ret, fncK_nx, ctK_nx, ctK_ct, ctK_ret, lcK_e, lstK_e, tupK_e, tupK_f, tupK_cat, ftupD_lst, ftupE_e, lenD_f, getD_f, addD_ff, blK_e, ovK_e, vaK_e, ife_e, var_e, ovar_e, cst_e, op1_e, op2_e, op3_e, aN_e, aC_e, tupE_e, lstE_e, cal_e, f1_e, cmp_e, flip_e, neg_e, chn_e, boo_e, tes_e, ff_e, tt_e, andT_e, orT_e, notT_e, fX_e, tX_e, andV_e, orV_e, notV_e, isN_e, yes_e, asg_e, gD_n, gD_t, gDs_n, gDs_c, frz_e, mov_e, movO_e, forE_e, iLst_e, iTp_e, iRng_e, one1_c, two2_c, iZp_e, lcE_e, lc2E_e, wip_n, wip_c, noOwn_n, noOwn_c, noO_no, noO_val, fnc_e, ini_e, met_e, fld_e, slE_e, prK_e, prt_e, prN_e, dic1_e, appK_e, app_e, extK_e, ext_e, stK_e, drpA_e, drpK_e, addD_int, addD_tup, addD_lst, subD_int, mulD_l, mulD_r, modD_int, divD_int, intD_int, intD_bl, ltD_int, leD_int, eqD_int, eqD_bl, lenD_lst, lenD_tup, lenD_scr, tupD_lst, listD_lst, listD_tup, revL_lst, isBool_bl, max2_int, isBD_bl, revT_tup, iEnum_e, iItm_e, iSq_e, isC_i, isLst_l, addI_int, subI_int, iZm_e, seqK_t, seqK_l, dcE_e, getD_t, getD_s, rngL_2, sumL_ints, sumT_tup, sumT_lst, allL_bls, anyL_bls, lcT_t, lcT_f, set_0, set_s, szL_le, szL_lt, Option.bind_some, Option.map_some, List.map_cons, List.map_nil, List.length_cons, List.length_nil, List.length_map, List.length_range, List.getElem?_cons_zero, List.getElem?_cons_succ, List.getElem?_map, List.replicate_succ, List.replicate_zero, List.cons_append, List.nil_append, if_true, if_false, ite_true, ite_false, Bool.and_true, Bool.true_and, Bool.and_self, and_true, true_and, and_self, decide_true, decide_false, Bool.not_true, Bool.not_false, eq_self, Int.toNat_natCast, Int.toNat_zero, Nat.reduceAdd, Nat.reduceSub, Nat.reduceLeDiff, Nat.reduceMul, Nat.reduceEqDiff, Int.reduceToNat, Nat.zero_add, Nat.reduceLT, Int.reduceLT, Int.reduceLE, Int.reduceEq, Int.reduceNe, Int.reduceMul, Int.reduceAdd, Int.reducePow, Bool.false_eq_true, reduceCtorEq, not_true_eq_false, not_false_eq_true, ne_eq, Option.getD_some, if_pos, List.length_append, List.length_replicate, msI, maI, msT, maT, msP, maR, hd, gL0, hi, hn, e0, hrg]
  generalize hlp : loop _ _ _ _ = o
  obtain ⟨e, rfl, w, s4, s5, rfl, hwl, hws⟩ := loop_o hlp (fun j env => ∃ (w : List Nat) (s4 s5 : DSlot), env = [.val (.int c), .val (.lst (L.map .int)), .val (nD n), .val (txD w), s4, s5, .no] ∧ w.length = j ∧ ∀ x ∈ w, x < 128)
    ⟨[], _, _, rfl, rfl, by simp⟩ (by
      rintro j x e hx ⟨w, s4, s5, rfl, hwl, hws⟩
      have hj : j < n := by
        have := (List.getElem?_eq_some_iff.mp hx).1
        simpa using this
      have hxj : x = j := by
        rw [List.getElem?_range hj] at hx
        exact (Option.some.inj hx).symm
      subst hxj
      have g3 : getD (.lst (L.map .int)) (.int (3 + (x : Int))) = some (.int (L.getD (3 + x) 0)) := by
        have := gL (3 + x) (by omega)
        rw [show ((3 + x : Nat) : Int) = 3 + (x : Int) from by push_cast; rfl] at this
        exact this
      have key : ∀ m : Nat, 0 < m → m ≤ 36 → ∃ ch, getD (txD (LTR ++ DG)) (.int (L.getD (3 + x) 0 % (m : Int))) = some (txD [ch]) ∧ ch < 128 := fun m hm hm2 => by
        obtain ⟨t, ht, htm⟩ := emodN (L.getD (3 + x) 0) hm
        rw [ht]
        have hlt : t < (LTR ++ DG).length := by omega
        exact ⟨(LTR ++ DG)[t], tx_get (by omega) (List.getElem?_eq_getElem hlt), sA _ (List.getElem_mem hlt)⟩
      obtain ⟨c1, k1, b1⟩ := key 26 (by omega) (by omega)
      obtain ⟨c2, k2, b2⟩ := key 36 (by omega) (by omega)
      have k1 : getD (txD (LTR ++ DG)) (.int (L.getD (3 + x) 0 % 26)) = some (txD [c1]) := k1
      have k2 : getD (txD (LTR ++ DG)) (.int (L.getD (3 + x) 0 % 36)) = some (txD [c2]) := k2
      have a1 := addT (a := w) (b := [c1]) (by simp; omega)
      have a2 := addT (a := w) (b := [c2]) (by simp; omega)
      by_cases z : (x : Int) = 0
      · have z' : (x : Int) = 0 ↔ True := iff_true_intro z
        by_cases y : 0 < L.getD 1 0 % 5
        · have y' : 0 < L.getD 1 0 % 5 ↔ True := iff_true_intro y
          refine stp (by simp -implicitDefEqProofs (disch := first | omega | (simp only [List.length_map, List.length_cons, List.length_nil, List.length_append, List.length_range, List.length_replicate]; omega)) only [sq_e, sqK_nx, sqK_ret, sqK_bk, sqK_ct, skip_e, setE_e, newE_e, rt_e, brk_e, cnt_e, ifS_e, ifK_t, ifK_f, ifX_t, ifX_f, ifT_t, ifT_f, fncK_ret, fncK_nx, ctK_nx, ctK_ct, ctK_ret, lcK_e, lstK_e, tupK_e, tupK_f, tupK_cat, ftupD_lst, ftupE_e, lenD_f, getD_f, addD_ff, blK_e, ovK_e, vaK_e, ife_e, var_e, ovar_e, cst_e, op1_e, op2_e, op3_e, aN_e, aC_e, tupE_e, lstE_e, cal_e, f1_e, cmp_e, flip_e, neg_e, chn_e, boo_e, tes_e, ff_e, tt_e, andT_e, orT_e, notT_e, fX_e, tX_e, andV_e, orV_e, notV_e, isN_e, yes_e, asg_e, gD_n, gD_t, gDs_n, gDs_c, frz_e, mov_e, movO_e, forE_e, iLst_e, iTp_e, iRng_e, one1_c, two2_c, iZp_e, lcE_e, lc2E_e, wip_n, wip_c, noOwn_n, noOwn_c, noO_no, noO_val, fnc_e, ini_e, met_e, fld_e, slE_e, prK_e, prt_e, prN_e, dic1_e, appK_e, app_e, extK_e, ext_e, stK_e, drpA_e, drpK_e, addD_int, addD_tup, addD_lst, subD_int, mulD_l, mulD_r, modD_int, divD_int, intD_int, intD_bl, ltD_int, leD_int, eqD_int, eqD_bl, lenD_lst, lenD_tup, lenD_scr, tupD_lst, listD_lst, listD_tup, revL_lst, isBool_bl, max2_int, isBD_bl, revT_tup, iEnum_e, iItm_e, iSq_e, isC_i, isLst_l, addI_int, subI_int, iZm_e, seqK_t, seqK_l, dcE_e, getD_t, getD_s, rngL_n, rngL_i, rngL_2, sumL_ints, sumT_tup, sumT_lst, allL_bls, anyL_bls, lcT_t, lcT_f, set_0, set_s, szL_le, szL_lt, Option.bind_some, Option.map_some, List.map_cons, List.map_nil, List.length_cons, List.length_nil, List.length_map, List.length_range, List.getElem?_cons_zero, List.getElem?_cons_succ, List.getElem?_map, List.replicate_succ, List.replicate_zero, List.cons_append, List.nil_append, if_true, if_false, ite_true, ite_false, Bool.and_true, Bool.true_and, Bool.and_self, and_true, true_and, and_self, decide_true, decide_false, Bool.not_true, Bool.not_false, eq_self, Int.toNat_natCast, Int.toNat_zero, Nat.reduceAdd, Nat.reduceSub, Nat.reduceLeDiff, Nat.reduceMul, Nat.reduceEqDiff, Int.reduceToNat, Nat.zero_add, Nat.reduceLT, Int.reduceLT, Int.reduceLE, Int.reduceEq, Int.reduceNe, Int.reduceMul, Int.reduceAdd, Int.reducePow, Bool.false_eq_true, reduceCtorEq, not_true_eq_false, not_false_eq_true, ne_eq, Option.getD_some, if_pos, List.length_append, List.length_replicate, msI, maI, msT, maT, msP, maR, z', gL1, y', eA, g3, k1, a1]; rfl) ?_
          exact ⟨w ++ [c1], _, _, rfl, by simp [hwl], fun v hv => (List.mem_append.mp hv).elim (hws v) fun q => by rw [List.mem_singleton.mp q]; exact b1⟩
        · have y' : 0 < L.getD 1 0 % 5 ↔ False := iff_false_intro y
          refine stp (by simp -implicitDefEqProofs (disch := first | omega | (simp only [List.length_map, List.length_cons, List.length_nil, List.length_append, List.length_range, List.length_replicate]; omega)) only [sq_e, sqK_nx, sqK_ret, sqK_bk, sqK_ct, skip_e, setE_e, newE_e, rt_e, brk_e, cnt_e, ifS_e, ifK_t, ifK_f, ifX_t, ifX_f, ifT_t, ifT_f, fncK_ret, fncK_nx, ctK_nx, ctK_ct, ctK_ret, lcK_e, lstK_e, tupK_e, tupK_f, tupK_cat, ftupD_lst, ftupE_e, lenD_f, getD_f, addD_ff, blK_e, ovK_e, vaK_e, ife_e, var_e, ovar_e, cst_e, op1_e, op2_e, op3_e, aN_e, aC_e, tupE_e, lstE_e, cal_e, f1_e, cmp_e, flip_e, neg_e, chn_e, boo_e, tes_e, ff_e, tt_e, andT_e, orT_e, notT_e, fX_e, tX_e, andV_e, orV_e, notV_e, isN_e, yes_e, asg_e, gD_n, gD_t, gDs_n, gDs_c, frz_e, mov_e, movO_e, forE_e, iLst_e, iTp_e, iRng_e, one1_c, two2_c, iZp_e, lcE_e, lc2E_e, wip_n, wip_c, noOwn_n, noOwn_c, noO_no, noO_val, fnc_e, ini_e, met_e, fld_e, slE_e, prK_e, prt_e, prN_e, dic1_e, appK_e, app_e, extK_e, ext_e, stK_e, drpA_e, drpK_e, addD_int, addD_tup, addD_lst, subD_int, mulD_l, mulD_r, modD_int, divD_int, intD_int, intD_bl, ltD_int, leD_int, eqD_int, eqD_bl, lenD_lst, lenD_tup, lenD_scr, tupD_lst, listD_lst, listD_tup, revL_lst, isBool_bl, max2_int, isBD_bl, revT_tup, iEnum_e, iItm_e, iSq_e, isC_i, isLst_l, addI_int, subI_int, iZm_e, seqK_t, seqK_l, dcE_e, getD_t, getD_s, rngL_n, rngL_i, rngL_2, sumL_ints, sumT_tup, sumT_lst, allL_bls, anyL_bls, lcT_t, lcT_f, set_0, set_s, szL_le, szL_lt, Option.bind_some, Option.map_some, List.map_cons, List.map_nil, List.length_cons, List.length_nil, List.length_map, List.length_range, List.getElem?_cons_zero, List.getElem?_cons_succ, List.getElem?_map, List.replicate_succ, List.replicate_zero, List.cons_append, List.nil_append, if_true, if_false, ite_true, ite_false, Bool.and_true, Bool.true_and, Bool.and_self, and_true, true_and, and_self, decide_true, decide_false, Bool.not_true, Bool.not_false, eq_self, Int.toNat_natCast, Int.toNat_zero, Nat.reduceAdd, Nat.reduceSub, Nat.reduceLeDiff, Nat.reduceMul, Nat.reduceEqDiff, Int.reduceToNat, Nat.zero_add, Nat.reduceLT, Int.reduceLT, Int.reduceLE, Int.reduceEq, Int.reduceNe, Int.reduceMul, Int.reduceAdd, Int.reducePow, Bool.false_eq_true, reduceCtorEq, not_true_eq_false, not_false_eq_true, ne_eq, Option.getD_some, if_pos, List.length_append, List.length_replicate, msI, maI, msT, maT, msP, maR, z', gL1, y', eA, g3, k2, a2]; rfl) ?_
          exact ⟨w ++ [c2], _, _, rfl, by simp [hwl], fun v hv => (List.mem_append.mp hv).elim (hws v) fun q => by rw [List.mem_singleton.mp q]; exact b2⟩
      · have z' : (x : Int) = 0 ↔ False := iff_false_intro z
        refine stp (by simp -implicitDefEqProofs (disch := first | omega | (simp only [List.length_map, List.length_cons, List.length_nil, List.length_append, List.length_range, List.length_replicate]; omega)) only [sq_e, sqK_nx, sqK_ret, sqK_bk, sqK_ct, skip_e, setE_e, newE_e, rt_e, brk_e, cnt_e, ifS_e, ifK_t, ifK_f, ifX_t, ifX_f, ifT_t, ifT_f, fncK_ret, fncK_nx, ctK_nx, ctK_ct, ctK_ret, lcK_e, lstK_e, tupK_e, tupK_f, tupK_cat, ftupD_lst, ftupE_e, lenD_f, getD_f, addD_ff, blK_e, ovK_e, vaK_e, ife_e, var_e, ovar_e, cst_e, op1_e, op2_e, op3_e, aN_e, aC_e, tupE_e, lstE_e, cal_e, f1_e, cmp_e, flip_e, neg_e, chn_e, boo_e, tes_e, ff_e, tt_e, andT_e, orT_e, notT_e, fX_e, tX_e, andV_e, orV_e, notV_e, isN_e, yes_e, asg_e, gD_n, gD_t, gDs_n, gDs_c, frz_e, mov_e, movO_e, forE_e, iLst_e, iTp_e, iRng_e, one1_c, two2_c, iZp_e, lcE_e, lc2E_e, wip_n, wip_c, noOwn_n, noOwn_c, noO_no, noO_val, fnc_e, ini_e, met_e, fld_e, slE_e, prK_e, prt_e, prN_e, dic1_e, appK_e, app_e, extK_e, ext_e, stK_e, drpA_e, drpK_e, addD_int, addD_tup, addD_lst, subD_int, mulD_l, mulD_r, modD_int, divD_int, intD_int, intD_bl, ltD_int, leD_int, eqD_int, eqD_bl, lenD_lst, lenD_tup, lenD_scr, tupD_lst, listD_lst, listD_tup, revL_lst, isBool_bl, max2_int, isBD_bl, revT_tup, iEnum_e, iItm_e, iSq_e, isC_i, isLst_l, addI_int, subI_int, iZm_e, seqK_t, seqK_l, dcE_e, getD_t, getD_s, rngL_n, rngL_i, rngL_2, sumL_ints, sumT_tup, sumT_lst, allL_bls, anyL_bls, lcT_t, lcT_f, set_0, set_s, szL_le, szL_lt, Option.bind_some, Option.map_some, List.map_cons, List.map_nil, List.length_cons, List.length_nil, List.length_map, List.length_range, List.getElem?_cons_zero, List.getElem?_cons_succ, List.getElem?_map, List.replicate_succ, List.replicate_zero, List.cons_append, List.nil_append, if_true, if_false, ite_true, ite_false, Bool.and_true, Bool.true_and, Bool.and_self, and_true, true_and, and_self, decide_true, decide_false, Bool.not_true, Bool.not_false, eq_self, Int.toNat_natCast, Int.toNat_zero, Nat.reduceAdd, Nat.reduceSub, Nat.reduceLeDiff, Nat.reduceMul, Nat.reduceEqDiff, Int.reduceToNat, Nat.zero_add, Nat.reduceLT, Int.reduceLT, Int.reduceLE, Int.reduceEq, Int.reduceNe, Int.reduceMul, Int.reduceAdd, Int.reducePow, Bool.false_eq_true, reduceCtorEq, not_true_eq_false, not_false_eq_true, ne_eq, Option.getD_some, if_pos, List.length_append, List.length_replicate, msI, maI, msT, maT, msP, maR, z', eA, g3, k2, a2]; rfl) ?_
        exact ⟨w ++ [c2], _, _, rfl, by simp [hwl], fun v hv => (List.mem_append.mp hv).elim (hws v) fun q => by rw [List.mem_singleton.mp q]; exact b2⟩)
  rw [List.length_range] at hwl
  by_cases t1 : L.getD 2 0 % 3 = 1
  · have t1' : L.getD 2 0 % 3 = 1 ↔ True := iff_true_intro t1
    have lw := len_t (s := w) (by omega)
    obtain ⟨a, ha, hal⟩ := emodN (L.getD 16 0) (m := w.length + 1) (by omega)
    have ha : L.getD 16 0 % ((w.length : Int) + 1) = (a : Int) := by push_cast at ha; exact ha
    obtain ⟨q, hq, hq12⟩ := emodN (L.getD 17 0) (m := 12) (by omega)
    have hq : L.getD 17 0 % 12 = (q : Int) := hq
    obtain ⟨h, hh, hh2⟩ := emodN (L.getD 2 0 / 3) (m := 2) (by omega)
    have hh : L.getD 2 0 / 3 % 2 = (h : Int) := hh
    have hqo : q < OTH.length := by show q < 12; omega
    have gO := tx_get (T := OTH) (k := q) (by decide) (List.getElem?_eq_getElem hqo)
    have s1 := slT_up (l := w) (k := a) (by omega) (by omega)
    have s2 := slT_fr (l := w) (k := a + h) (by omega)
    have s2 : slcT (some ((a : Int) + (h : Int))) none (txD w) = some (txD (w.drop (a + h))) := by push_cast at s2; exact s2
    have b1 := addT (a := w.take a) (b := [OTH[q]]) (by simp; omega)
    have b2 := addT (a := w.take a ++ [OTH[q]]) (b := w.drop (a + h)) (by simp; omega)
    refine ⟨w.take a ++ [OTH[q]] ++ w.drop (a + h), ?_, by simp; omega, fun x hx => ?_⟩
    · simp -implicitDefEqProofs (disch := first | omega | (simp only [List.length_map, List.length_cons, List.length_nil, List.length_append, List.length_range, List.length_replicate]; omega)) only [sq_e, sqK_nx, sqK_ret, sqK_bk, sqK_ct, skip_e, setE_e, newE_e, rt_e, brk_e, cnt_e, ifS_e, ifK_t, ifK_f, ifX_t, ifX_f, ifT_t, ifT_f, fncK_ret, fncK_nx, ctK_nx, ctK_ct, ctK_ret, lcK_e, lstK_e, tupK_e, tupK_f, tupK_cat, ftupD_lst, ftupE_e, lenD_f, getD_f, addD_ff, blK_e, ovK_e, vaK_e, ife_e, var_e, ovar_e, cst_e, op1_e, op2_e, op3_e, aN_e, aC_e, tupE_e, lstE_e, cal_e, f1_e, cmp_e, flip_e, neg_e, chn_e, boo_e, tes_e, ff_e, tt_e, andT_e, orT_e, notT_e, fX_e, tX_e, andV_e, orV_e, notV_e, isN_e, yes_e, asg_e, gD_n, gD_t, gDs_n, gDs_c, frz_e, mov_e, movO_e, forE_e, iLst_e, iTp_e, iRng_e, one1_c, two2_c, iZp_e, lcE_e, lc2E_e, wip_n, wip_c, noOwn_n, noOwn_c, noO_no, noO_val, fnc_e, ini_e, met_e, fld_e, slE_e, prK_e, prt_e, prN_e, dic1_e, appK_e, app_e, extK_e, ext_e, stK_e, drpA_e, drpK_e, addD_int, addD_tup, addD_lst, subD_int, mulD_l, mulD_r, modD_int, divD_int, intD_int, intD_bl, ltD_int, leD_int, eqD_int, eqD_bl, lenD_lst, lenD_tup, lenD_scr, tupD_lst, listD_lst, listD_tup, revL_lst, isBool_bl, max2_int, isBD_bl, revT_tup, iEnum_e, iItm_e, iSq_e, isC_i, isLst_l, addI_int, subI_int, iZm_e, seqK_t, seqK_l, dcE_e, getD_t, getD_s, rngL_n, rngL_i, rngL_2, sumL_ints, sumT_tup, sumT_lst, allL_bls, anyL_bls, lcT_t, lcT_f, set_0, set_s, szL_le, szL_lt, Option.bind_some, Option.map_some, List.map_cons, List.map_nil, List.length_cons, List.length_nil, List.length_map, List.length_range, List.getElem?_cons_zero, List.getElem?_cons_succ, List.getElem?_map, List.replicate_succ, List.replicate_zero, List.cons_append, List.nil_append, if_true, if_false, ite_true, ite_false, Bool.and_true, Bool.true_and, Bool.and_self, and_true, true_and, and_self, decide_true, decide_false, Bool.not_true, Bool.not_false, eq_self, Int.toNat_natCast, Int.toNat_zero, Nat.reduceAdd, Nat.reduceSub, Nat.reduceLeDiff, Nat.reduceMul, Nat.reduceEqDiff, Int.reduceToNat, Nat.zero_add, Nat.reduceLT, Int.reduceLT, Int.reduceLE, Int.reduceEq, Int.reduceNe, Int.reduceMul, Int.reduceAdd, Int.reducePow, Bool.false_eq_true, reduceCtorEq, not_true_eq_false, not_false_eq_true, ne_eq, Option.getD_some, if_pos, List.length_append, List.length_replicate, msI, maI, msT, maT, msP, maR, gL2, t1', gL16, lw, ha, s1, eO, gL17, hq, gO, b1, hh, s2, b2]
    · simp only [List.mem_append, List.mem_singleton] at hx
      rcases hx with (hx | rfl) | hx
      · exact hws x (List.mem_of_mem_take hx)
      · exact sO _ (List.getElem_mem hqo)
      · exact hws x (List.mem_of_mem_drop hx)
  · have t1' : L.getD 2 0 % 3 = 1 ↔ False := iff_false_intro t1
    refine ⟨w, ?_, by omega, hws⟩
    simp -implicitDefEqProofs (disch := first | omega | (simp only [List.length_map, List.length_cons, List.length_nil, List.length_append, List.length_range, List.length_replicate]; omega)) only [sq_e, sqK_nx, sqK_ret, sqK_bk, sqK_ct, skip_e, setE_e, newE_e, rt_e, brk_e, cnt_e, ifS_e, ifK_t, ifK_f, ifX_t, ifX_f, ifT_t, ifT_f, fncK_ret, fncK_nx, ctK_nx, ctK_ct, ctK_ret, lcK_e, lstK_e, tupK_e, tupK_f, tupK_cat, ftupD_lst, ftupE_e, lenD_f, getD_f, addD_ff, blK_e, ovK_e, vaK_e, ife_e, var_e, ovar_e, cst_e, op1_e, op2_e, op3_e, aN_e, aC_e, tupE_e, lstE_e, cal_e, f1_e, cmp_e, flip_e, neg_e, chn_e, boo_e, tes_e, ff_e, tt_e, andT_e, orT_e, notT_e, fX_e, tX_e, andV_e, orV_e, notV_e, isN_e, yes_e, asg_e, gD_n, gD_t, gDs_n, gDs_c, frz_e, mov_e, movO_e, forE_e, iLst_e, iTp_e, iRng_e, one1_c, two2_c, iZp_e, lcE_e, lc2E_e, wip_n, wip_c, noOwn_n, noOwn_c, noO_no, noO_val, fnc_e, ini_e, met_e, fld_e, slE_e, prK_e, prt_e, prN_e, dic1_e, appK_e, app_e, extK_e, ext_e, stK_e, drpA_e, drpK_e, addD_int, addD_tup, addD_lst, subD_int, mulD_l, mulD_r, modD_int, divD_int, intD_int, intD_bl, ltD_int, leD_int, eqD_int, eqD_bl, lenD_lst, lenD_tup, lenD_scr, tupD_lst, listD_lst, listD_tup, revL_lst, isBool_bl, max2_int, isBD_bl, revT_tup, iEnum_e, iItm_e, iSq_e, isC_i, isLst_l, addI_int, subI_int, iZm_e, seqK_t, seqK_l, dcE_e, getD_t, getD_s, rngL_n, rngL_i, rngL_2, sumL_ints, sumT_tup, sumT_lst, allL_bls, anyL_bls, lcT_t, lcT_f, set_0, set_s, szL_le, szL_lt, Option.bind_some, Option.map_some, List.map_cons, List.map_nil, List.length_cons, List.length_nil, List.length_map, List.length_range, List.getElem?_cons_zero, List.getElem?_cons_succ, List.getElem?_map, List.replicate_succ, List.replicate_zero, List.cons_append, List.nil_append, if_true, if_false, ite_true, ite_false, Bool.and_true, Bool.true_and, Bool.and_self, and_true, true_and, and_self, decide_true, decide_false, Bool.not_true, Bool.not_false, eq_self, Int.toNat_natCast, Int.toNat_zero, Nat.reduceAdd, Nat.reduceSub, Nat.reduceLeDiff, Nat.reduceMul, Nat.reduceEqDiff, Int.reduceToNat, Nat.zero_add, Nat.reduceLT, Int.reduceLT, Int.reduceLE, Int.reduceEq, Int.reduceNe, Int.reduceMul, Int.reduceAdd, Int.reducePow, Bool.false_eq_true, reduceCtorEq, not_true_eq_false, not_false_eq_true, ne_eq, Option.getD_some, if_pos, List.length_append, List.length_replicate, msI, maI, msT, maT, msP, maR, gL2, t1']

def nmB (w : List Nat) : Bool := decide (1 ≤ w.length ∧ w.length ≤ 12 ∧ w.getD 0 0 ∈ LTR ∧ ∀ c ∈ w, c ∈ LTR ++ DG)
theorem ist_tx (w : List Nat) {a : Ex} {e : DEnv} (h : a e = some (txD w)) : iSt a e = some (w.map fun c => txD [c]) := by
  show (a e).bind _ = _
  rw [h]
  rfl
theorem all_bl (bs : List Bool) : allL (.lst (bs.map D.bl)) = some (.bl (bs.all id)) := by
  have : ∀ bs : List Bool, blsOf (bs.map D.bl) = some bs := fun bs => by
    induction bs with
    | nil => rfl
    | cons b bs ih => simp [blsOf, ih]
  simp only [allL, this]
  rfl
theorem is_name_eq {w : List Nat} (hl : w.length ≤ 100) : F_is_name [txD w] = some (.bl (nmB w)) := by
  have eL : (D.str "abcdefghijklmnopqrstuvwxyz") = txD LTR := rfl
  have eD : (D.str "0123456789") = txD DG := rfl
  have hlen := len_t (s := w) (by omega)
  unfold F_is_name
  by_cases h1 : 1 ≤ w.length ∧ w.length ≤ 12
  · have h1' : ((1 : Int) ≤ (w.length : Int)) ↔ True := iff_true_intro (by omega)
    have h2' : ((w.length : Int) ≤ 12) ↔ True := iff_true_intro (by omega)
    have g0 : w[0]? = some (w.getD 0 0) := by simp [List.getD, List.getElem?_eq_getElem (show 0 < w.length by omega)]
    have hg : getD (txD w) (.int 0) = some (txD [w.getD 0 0]) := tx_get (by omega) g0
    have hi := tx_in (c := w.getD 0 0) (A := LTR)
    by_cases h3 : w.getD 0 0 ∈ LTR
    · rw [decide_eq_true h3] at hi
      have e1 : lcRun (gD (.n 1)) yes (orV (boo (cmp inS (var 1) (cst (txD LTR)))) (boo (cmp inS (var 1) (cst (txD DG))))) [.val (txD w), .no] (w.map fun c => txD [c]) = some ((w.map fun c => decide (c ∈ LTR ++ DG)).map D.bl) :=
        lcRun_m (enc' := D.bl) (fun c => decide (c ∈ LTR ++ DG)) fun c hc => by
          have i1 := tx_in (c := c) (A := LTR)
          have i2 := tx_in (c := c) (A := DG)
          by_cases z1 : c ∈ LTR
          · rw [decide_eq_true z1] at i1
            rw [decide_eq_true (List.mem_append_left DG z1)]
            simp_arith [i1]
          · rw [decide_eq_false z1] at i1
            by_cases z2 : c ∈ DG
            · rw [decide_eq_true z2] at i2
              rw [decide_eq_true (List.mem_append_right LTR z2)]
              simp_arith [i1, i2]
            · rw [decide_eq_false z2] at i2
              rw [decide_eq_false (fun z => (List.mem_append.mp z).elim z1 z2)]
              simp_arith [i1, i2]
      have hst := ist_tx w (a := var 0) (e := [.val (txD w), .no]) rfl
      have hall := all_bl (w.map fun c => decide (c ∈ LTR ++ DG))
      have hn : ((w.map fun c => decide (c ∈ LTR ++ DG)).all id) = nmB w := by
        unfold nmB
        rw [Bool.eq_iff_iff, List.all_map, List.all_eq_true, decide_eq_true_iff]
        simp only [Function.comp, id, decide_eq_true_eq]
        exact ⟨fun z => ⟨h1.1, h1.2, h3, z⟩, fun z => z.2.2.2⟩
      rw [hn] at hall
      have hz : (w.map fun c => txD [c]).length ≤ szL := by unfold szL; simp; omega
      generalize (w.map fun c => decide (c ∈ LTR ++ DG)).map D.bl = LL at e1 hall
      generalize (w.map fun c => txD [c]) = WW at e1 hst hz
      simp -implicitDefEqProofs (disch := first | omega | (simp only [List.length_map, List.length_cons, List.length_nil, List.length_append, List.length_range, List.length_replicate]; omega)) only [sq_e, sqK_nx, sqK_ret, sqK_bk, sqK_ct, skip_e, setE_e, newE_e, rt_e, brk_e, cnt_e, ifS_e, ifK_t, ifK_f, ifX_t, ifX_f, ifT_t, ifT_f, fncK_ret, fncK_nx, ctK_nx, ctK_ct, ctK_ret, lcK_e, lstK_e, tupK_e, tupK_f, tupK_cat, ftupD_lst, ftupE_e, lenD_f, getD_f, addD_ff, blK_e, ovK_e, vaK_e, ife_e, var_e, ovar_e, cst_e, op1_e, op2_e, op3_e, aN_e, aC_e, tupE_e, lstE_e, cal_e, f1_e, cmp_e, flip_e, neg_e, chn_e, boo_e, tes_e, ff_e, tt_e, andT_e, orT_e, notT_e, fX_e, tX_e, andV_e, orV_e, notV_e, isN_e, yes_e, asg_e, gD_n, gD_t, gDs_n, gDs_c, frz_e, mov_e, movO_e, forE_e, iLst_e, iTp_e, iRng_e, one1_c, two2_c, iZp_e, lcE_e, lc2E_e, wip_n, wip_c, noOwn_n, noOwn_c, noO_no, noO_val, fnc_e, ini_e, met_e, fld_e, slE_e, prK_e, prt_e, prN_e, dic1_e, appK_e, app_e, extK_e, ext_e, stK_e, drpA_e, drpK_e, addD_int, addD_tup, addD_lst, subD_int, mulD_l, mulD_r, modD_int, divD_int, intD_int, intD_bl, ltD_int, leD_int, eqD_int, eqD_bl, lenD_lst, lenD_tup, lenD_scr, tupD_lst, listD_lst, listD_tup, revL_lst, isBool_bl, max2_int, isBD_bl, revT_tup, iEnum_e, iItm_e, iSq_e, isC_i, isLst_l, addI_int, subI_int, iZm_e, seqK_t, seqK_l, dcE_e, getD_l, getD_t, rngL_n, rngL_i, rngL_2, sumL_ints, sumT_tup, sumT_lst, allL_bls, anyL_bls, lcT_t, lcT_f, set_0, set_s, szL_le, szL_lt, Option.bind_some, Option.map_some, List.map_cons, List.map_nil, List.length_cons, List.length_nil, List.length_map, List.length_range, List.getElem?_cons_zero, List.getElem?_cons_succ, List.getElem?_map, List.replicate_succ, List.replicate_zero, List.cons_append, List.nil_append, if_true, if_false, ite_true, ite_false, Bool.and_true, Bool.true_and, Bool.and_self, and_true, true_and, and_self, decide_true, decide_false, Bool.not_true, Bool.not_false, eq_self, Int.toNat_natCast, Int.toNat_zero, Nat.reduceAdd, Nat.reduceSub, Nat.reduceLeDiff, Nat.reduceMul, Nat.reduceEqDiff, Int.reduceToNat, Nat.zero_add, Nat.reduceLT, Int.reduceLT, Int.reduceLE, Int.reduceEq, Int.reduceNe, Int.reduceMul, Int.reduceAdd, Int.reducePow, Bool.false_eq_true, reduceCtorEq, not_true_eq_false, not_false_eq_true, ne_eq, Option.getD_some, if_pos, List.length_append, List.length_replicate, msI, maI, msT, maT, msP, maR, hlen, h1', h2', hg, eL, eD, hi, neg_e, hst, hz, e1, hall]
    · rw [decide_eq_false h3] at hi
      have hn : nmB w = false := decide_eq_false fun z => h3 z.2.2.1
      rw [hn]
      simp -implicitDefEqProofs (disch := first | omega | (simp only [List.length_map, List.length_cons, List.length_nil, List.length_append, List.length_range, List.length_replicate]; omega)) only [sq_e, sqK_nx, sqK_ret, sqK_bk, sqK_ct, skip_e, setE_e, newE_e, rt_e, brk_e, cnt_e, ifS_e, ifK_t, ifK_f, ifX_t, ifX_f, ifT_t, ifT_f, fncK_ret, fncK_nx, ctK_nx, ctK_ct, ctK_ret, lcK_e, lstK_e, tupK_e, tupK_f, tupK_cat, ftupD_lst, ftupE_e, lenD_f, getD_f, addD_ff, blK_e, ovK_e, vaK_e, ife_e, var_e, ovar_e, cst_e, op1_e, op2_e, op3_e, aN_e, aC_e, tupE_e, lstE_e, cal_e, f1_e, cmp_e, flip_e, neg_e, chn_e, boo_e, tes_e, ff_e, tt_e, andT_e, orT_e, notT_e, fX_e, tX_e, andV_e, orV_e, notV_e, isN_e, yes_e, asg_e, gD_n, gD_t, gDs_n, gDs_c, frz_e, mov_e, movO_e, forE_e, iLst_e, iTp_e, iRng_e, one1_c, two2_c, iZp_e, lcE_e, lc2E_e, wip_n, wip_c, noOwn_n, noOwn_c, noO_no, noO_val, fnc_e, ini_e, met_e, fld_e, slE_e, prK_e, prt_e, prN_e, dic1_e, appK_e, app_e, extK_e, ext_e, stK_e, drpA_e, drpK_e, addD_int, addD_tup, addD_lst, subD_int, mulD_l, mulD_r, modD_int, divD_int, intD_int, intD_bl, ltD_int, leD_int, eqD_int, eqD_bl, lenD_lst, lenD_tup, lenD_scr, tupD_lst, listD_lst, listD_tup, revL_lst, isBool_bl, max2_int, isBD_bl, revT_tup, iEnum_e, iItm_e, iSq_e, isC_i, isLst_l, addI_int, subI_int, iZm_e, seqK_t, seqK_l, dcE_e, getD_l, getD_t, rngL_n, rngL_i, rngL_2, sumL_ints, sumT_tup, sumT_lst, allL_bls, anyL_bls, lcT_t, lcT_f, set_0, set_s, szL_le, szL_lt, Option.bind_some, Option.map_some, List.map_cons, List.map_nil, List.length_cons, List.length_nil, List.length_map, List.length_range, List.getElem?_cons_zero, List.getElem?_cons_succ, List.getElem?_map, List.replicate_succ, List.replicate_zero, List.cons_append, List.nil_append, if_true, if_false, ite_true, ite_false, Bool.and_true, Bool.true_and, Bool.and_self, and_true, true_and, and_self, decide_true, decide_false, Bool.not_true, Bool.not_false, eq_self, Int.toNat_natCast, Int.toNat_zero, Nat.reduceAdd, Nat.reduceSub, Nat.reduceLeDiff, Nat.reduceMul, Nat.reduceEqDiff, Int.reduceToNat, Nat.zero_add, Nat.reduceLT, Int.reduceLT, Int.reduceLE, Int.reduceEq, Int.reduceNe, Int.reduceMul, Int.reduceAdd, Int.reducePow, Bool.false_eq_true, reduceCtorEq, not_true_eq_false, not_false_eq_true, ne_eq, Option.getD_some, if_pos, List.length_append, List.length_replicate, msI, maI, msT, maT, msP, maR, hlen, h1', h2', hg, eL, hi, neg_e]
  · have hn : nmB w = false := decide_eq_false fun z => h1 ⟨z.1, z.2.1⟩
    rw [hn]
    by_cases h0 : 1 ≤ w.length
    · have h1' : ((1 : Int) ≤ (w.length : Int)) ↔ True := iff_true_intro (by omega)
      have h2' : ((w.length : Int) ≤ 12) ↔ False := iff_false_intro (by omega)
      simp_arith [hlen, h1', h2']
    · have h1' : ((1 : Int) ≤ (w.length : Int)) ↔ False := iff_false_intro (by omega)
      simp_arith [hlen, h1']
theorem lis_name_eq {w : List Nat} (hl : w.length ≤ 100) : F__law_is_name [txD w] = some (.bl (nmB w)) := by
  have eL : (D.str "abcdefghijklmnopqrstuvwxyz") = txD LTR := rfl
  have eA : (D.str "abcdefghijklmnopqrstuvwxyz0123456789") = txD (LTR ++ DG) := rfl
  have hlen := len_t (s := w) (by omega)
  unfold F__law_is_name
  by_cases h0 : w.length = 0
  · have hn : nmB w = false := decide_eq_false fun z => by omega
    rw [hn]
    have h0' : ((w.length : Int) = 0) ↔ True := iff_true_intro (by omega)
    simp_arith [hlen, h0']
  · have h0' : ((w.length : Int) = 0) ↔ False := iff_false_intro (by omega)
    by_cases h1 : 12 < w.length
    · have hn : nmB w = false := decide_eq_false fun z => by omega
      rw [hn]
      have h1' : ((12 : Int) < (w.length : Int)) ↔ True := iff_true_intro (by omega)
      simp_arith [hlen, h0', h1']
    · have h1' : ((12 : Int) < (w.length : Int)) ↔ False := iff_false_intro (by omega)
      have g0 : w[0]? = some (w.getD 0 0) := by simp [List.getD, List.getElem?_eq_getElem (show 0 < w.length by omega)]
      have hg : getD (txD w) (.int 0) = some (txD [w.getD 0 0]) := tx_get (by omega) g0
      have hi := tx_in (c := w.getD 0 0) (A := LTR)
      by_cases h3 : w.getD 0 0 ∈ LTR
      · rw [decide_eq_true h3] at hi
        have e1 : lcRun (gD (.n 1)) yes (boo (cmp inS (var 1) (cst (txD (LTR ++ DG))))) [.val (txD w), .no] (w.map fun c => txD [c]) = some ((w.map fun c => decide (c ∈ LTR ++ DG)).map D.bl) :=
          lcRun_m (enc' := D.bl) (fun c => decide (c ∈ LTR ++ DG)) fun c hc => by
            have i1 := tx_in (c := c) (A := LTR ++ DG)
            simp_arith [i1]
        have hst := ist_tx w (a := var 0) (e := [.val (txD w), .no]) rfl
        have hall := all_bl (w.map fun c => decide (c ∈ LTR ++ DG))
        have hn : ((w.map fun c => decide (c ∈ LTR ++ DG)).all id) = nmB w := by
          unfold nmB
          rw [Bool.eq_iff_iff, List.all_map, List.all_eq_true, decide_eq_true_iff]
          simp only [Function.comp, id, decide_eq_true_eq]
          exact ⟨fun z => ⟨by omega, by omega, h3, z⟩, fun z => z.2.2.2⟩
        rw [hn] at hall
        have hz : (w.map fun c => txD [c]).length ≤ szL := by unfold szL; simp; omega
        generalize (w.map fun c => decide (c ∈ LTR ++ DG)).map D.bl = LL at e1 hall
        generalize (w.map fun c => txD [c]) = WW at e1 hst hz
        simp -implicitDefEqProofs (disch := first | omega | (simp only [List.length_map, List.length_cons, List.length_nil, List.length_append, List.length_range, List.length_replicate]; omega)) only [sq_e, sqK_nx, sqK_ret, sqK_bk, sqK_ct, skip_e, setE_e, newE_e, rt_e, brk_e, cnt_e, ifS_e, ifK_t, ifK_f, ifX_t, ifX_f, ifT_t, ifT_f, fncK_ret, fncK_nx, ctK_nx, ctK_ct, ctK_ret, lcK_e, lstK_e, tupK_e, tupK_f, tupK_cat, ftupD_lst, ftupE_e, lenD_f, getD_f, addD_ff, blK_e, ovK_e, vaK_e, ife_e, var_e, ovar_e, cst_e, op1_e, op2_e, op3_e, aN_e, aC_e, tupE_e, lstE_e, cal_e, f1_e, cmp_e, flip_e, neg_e, chn_e, boo_e, tes_e, ff_e, tt_e, andT_e, orT_e, notT_e, fX_e, tX_e, andV_e, orV_e, notV_e, isN_e, yes_e, asg_e, gD_n, gD_t, gDs_n, gDs_c, frz_e, mov_e, movO_e, forE_e, iLst_e, iTp_e, iRng_e, one1_c, two2_c, iZp_e, lcE_e, lc2E_e, wip_n, wip_c, noOwn_n, noOwn_c, noO_no, noO_val, fnc_e, ini_e, met_e, fld_e, slE_e, prK_e, prt_e, prN_e, dic1_e, appK_e, app_e, extK_e, ext_e, stK_e, drpA_e, drpK_e, addD_int, addD_tup, addD_lst, subD_int, mulD_l, mulD_r, modD_int, divD_int, intD_int, intD_bl, ltD_int, leD_int, eqD_int, eqD_bl, lenD_lst, lenD_tup, lenD_scr, tupD_lst, listD_lst, listD_tup, revL_lst, isBool_bl, max2_int, isBD_bl, revT_tup, iEnum_e, iItm_e, iSq_e, isC_i, isLst_l, addI_int, subI_int, iZm_e, seqK_t, seqK_l, dcE_e, getD_l, getD_t, rngL_n, rngL_i, rngL_2, sumL_ints, sumT_tup, sumT_lst, allL_bls, anyL_bls, lcT_t, lcT_f, set_0, set_s, szL_le, szL_lt, Option.bind_some, Option.map_some, List.map_cons, List.map_nil, List.length_cons, List.length_nil, List.length_map, List.length_range, List.getElem?_cons_zero, List.getElem?_cons_succ, List.getElem?_map, List.replicate_succ, List.replicate_zero, List.cons_append, List.nil_append, if_true, if_false, ite_true, ite_false, Bool.and_true, Bool.true_and, Bool.and_self, and_true, true_and, and_self, decide_true, decide_false, Bool.not_true, Bool.not_false, eq_self, Int.toNat_natCast, Int.toNat_zero, Nat.reduceAdd, Nat.reduceSub, Nat.reduceLeDiff, Nat.reduceMul, Nat.reduceEqDiff, Int.reduceToNat, Nat.zero_add, Nat.reduceLT, Int.reduceLT, Int.reduceLE, Int.reduceEq, Int.reduceNe, Int.reduceMul, Int.reduceAdd, Int.reducePow, Bool.false_eq_true, reduceCtorEq, not_true_eq_false, not_false_eq_true, ne_eq, Option.getD_some, if_pos, List.length_append, List.length_replicate, msI, maI, msT, maT, msP, maR, hlen, h0', h1', hg, eL, eA, hi, neg_e, hst, hz, e1, hall]
      · rw [decide_eq_false h3] at hi
        have hn : nmB w = false := decide_eq_false fun z => h3 z.2.2.1
        rw [hn]
        simp -implicitDefEqProofs (disch := first | omega | (simp only [List.length_map, List.length_cons, List.length_nil, List.length_append, List.length_range, List.length_replicate]; omega)) only [sq_e, sqK_nx, sqK_ret, sqK_bk, sqK_ct, skip_e, setE_e, newE_e, rt_e, brk_e, cnt_e, ifS_e, ifK_t, ifK_f, ifX_t, ifX_f, ifT_t, ifT_f, fncK_ret, fncK_nx, ctK_nx, ctK_ct, ctK_ret, lcK_e, lstK_e, tupK_e, tupK_f, tupK_cat, ftupD_lst, ftupE_e, lenD_f, getD_f, addD_ff, blK_e, ovK_e, vaK_e, ife_e, var_e, ovar_e, cst_e, op1_e, op2_e, op3_e, aN_e, aC_e, tupE_e, lstE_e, cal_e, f1_e, cmp_e, flip_e, neg_e, chn_e, boo_e, tes_e, ff_e, tt_e, andT_e, orT_e, notT_e, fX_e, tX_e, andV_e, orV_e, notV_e, isN_e, yes_e, asg_e, gD_n, gD_t, gDs_n, gDs_c, frz_e, mov_e, movO_e, forE_e, iLst_e, iTp_e, iRng_e, one1_c, two2_c, iZp_e, lcE_e, lc2E_e, wip_n, wip_c, noOwn_n, noOwn_c, noO_no, noO_val, fnc_e, ini_e, met_e, fld_e, slE_e, prK_e, prt_e, prN_e, dic1_e, appK_e, app_e, extK_e, ext_e, stK_e, drpA_e, drpK_e, addD_int, addD_tup, addD_lst, subD_int, mulD_l, mulD_r, modD_int, divD_int, intD_int, intD_bl, ltD_int, leD_int, eqD_int, eqD_bl, lenD_lst, lenD_tup, lenD_scr, tupD_lst, listD_lst, listD_tup, revL_lst, isBool_bl, max2_int, isBD_bl, revT_tup, iEnum_e, iItm_e, iSq_e, isC_i, isLst_l, addI_int, subI_int, iZm_e, seqK_t, seqK_l, dcE_e, getD_l, getD_t, rngL_n, rngL_i, rngL_2, sumL_ints, sumT_tup, sumT_lst, allL_bls, anyL_bls, lcT_t, lcT_f, set_0, set_s, szL_le, szL_lt, Option.bind_some, Option.map_some, List.map_cons, List.map_nil, List.length_cons, List.length_nil, List.length_map, List.length_range, List.getElem?_cons_zero, List.getElem?_cons_succ, List.getElem?_map, List.replicate_succ, List.replicate_zero, List.cons_append, List.nil_append, if_true, if_false, ite_true, ite_false, Bool.and_true, Bool.true_and, Bool.and_self, and_true, true_and, and_self, decide_true, decide_false, Bool.not_true, Bool.not_false, eq_self, Int.toNat_natCast, Int.toNat_zero, Nat.reduceAdd, Nat.reduceSub, Nat.reduceLeDiff, Nat.reduceMul, Nat.reduceEqDiff, Int.reduceToNat, Nat.zero_add, Nat.reduceLT, Int.reduceLT, Int.reduceLE, Int.reduceEq, Int.reduceNe, Int.reduceMul, Int.reduceAdd, Int.reducePow, Bool.false_eq_true, reduceCtorEq, not_true_eq_false, not_false_eq_true, ne_eq, Option.getD_some, if_pos, List.length_append, List.length_replicate, msI, maI, msT, maT, msP, maR, hlen, h0', h1', hg, eL, hi, neg_e]

abbrev sS (l : List Nat) : Str := ⟨l.toArray⟩
def tbl (v : Int) : Nat := if v = 2 then 8 else if v = 3 then 5 else if v = 5 then 3 else 2
def spMk (v : Int) (N : List (List Nat)) : Bool := decide (v = 2 ∨ v = 3 ∨ v = 5 ∨ v = 7) && (decide (1 ≤ N.length ∧ N.length ≤ 8) && (N.all nmB && (decide (¬ (dst (N.map sS)).length < N.length) && decide (N.length ≤ tbl v))))
theorem strs_t : ∀ N : List (List Nat), strsOf (N.map txD) = some (N.map sS)
  | [] => rfl
  | x :: l => by
    have := strs_t l
    rw [List.map_cons]
    show (strsOf (l.map txD)).map _ = _
    rw [this]; rfl
theorem lenSet_t {N : List (List Nat)} (h : N.length < 64) : lenSet (.lst (N.map txD)) = some (nD (dst (N.map sS)).length) := by
  simp only [lenSet, strs_t, Option.bind_some]
  rw [if_pos (by simpa using h)]
theorem inL_p (v : Int) : inL (.int v) (.lst [.int 2, .int 3, .int 5, .int 7]) = some (decide (v = 2 ∨ v = 3 ∨ v = 5 ∨ v = 7)) := by
  have : inL (.int v) (.lst [.int 2, .int 3, .int 5, .int 7]) = some ([D.int 2, .int 3, .int 5, .int 7].any fun z => D.eqv z (.int v)) := rfl
  rw [this]
  congr 1
  simp only [List.any_cons, List.any_nil, D.eqv, Bool.or_false]
  rw [Bool.eq_iff_iff]
  simp only [Bool.or_eq_true, beq_iff_eq, decide_eq_true_iff]
  constructor
  · rintro (h | h | h | h) <;> omega
  · intro h
    omega
def inCK (n : Bool) (ds : List D) : D → Option Bool
  | .int i => some (n != ds.any fun z => D.eqv z (.int i))
  | _ => none
theorem inC_e {a : Ex} {e} : inC n ds a e = (a e).bind (inCK n ds) := by unfold inC; congr
theorem inC_p (v : Int) : inCK true [.int 2, .int 3, .int 5, .int 7] (.int v) = some (!decide (v = 2 ∨ v = 3 ∨ v = 5 ∨ v = 7)) := by
  have h := inL_p v
  have : inL (.int v) (.lst [.int 2, .int 3, .int 5, .int 7]) = some ([D.int 2, .int 3, .int 5, .int 7].any fun z => D.eqv z (.int v)) := rfl
  rw [this] at h
  have h := Option.some.inj h
  show some (true != [D.int 2, .int 3, .int 5, .int 7].any fun z => D.eqv z (.int v)) = _
  rw [h]
  simp
theorem lens_t (N : List (List Nat)) : lenD (.lst (N.map txD)) = some (nD N.length) := by simp [lenD]
theorem names_run {N : List (List Nat)} (hN : ∀ w ∈ N, w.length ≤ 100) {e0 : DEnv} {i : Nat} (hi : i < e0.length) {F : Fn} (hF : ∀ w ∈ N, F [txD w] = some (.bl (nmB w))) : lcRun (gD (.n i)) yes (cal F (aC (var i) aN)) e0 (N.map txD) = some ((N.map nmB).map D.bl) :=
  lcRun_m (enc' := D.bl) nmB fun w hw => by
    have h1 := hF w hw
    have h2 : (e0.set i (.val (txD w)))[i]? = some (.val (txD w)) := List.getElem?_set_self (by simpa using hi)
    simp only [gD, Option.bind_some, cal, aC, var, h2, aN, h1]
theorem lmakes_eq {v : Int} {N : List (List Nat)} (hl : N.length ≤ 20) (hN : ∀ w ∈ N, w.length ≤ 100) : F__law_makes [.int v, .lst (N.map txD)] = some (.bl (spMk v N)) := by
  have q1 := inL_p v
  have q2 := lens_t N
  have q3 := lenSet_t (N := N) (by omega)
  have q4 := names_run hN (e0 := [.val (.int v), .val (.lst (N.map txD)), .no]) (i := 2) (by simp) (F := F__law_is_name) fun w hw => lis_name_eq (hN w hw)
  have q5 := all_bl (N.map nmB)
  have q6 : ((N.map nmB).all id) = N.all nmB := by rw [List.all_map]; rfl
  rw [q6] at q5
  have hz : (N.map txD).length ≤ szL := by unfold szL; simp; omega
  generalize (N.map nmB).map D.bl = BB at q4 q5
  generalize hNN : N.map txD = NN at q2 q3 q4 hz ⊢
  unfold F__law_makes spMk
  by_cases hv : v = 2 ∨ v = 3 ∨ v = 5 ∨ v = 7
  · rw [decide_eq_true hv] at q1 ⊢
    by_cases h0 : N.length = 0
    · have h0' : ((N.length : Int) = 0) ↔ True := iff_true_intro (by omega)
      rw [decide_eq_false (p := 1 ≤ N.length ∧ N.length ≤ 8) (by omega)]
      simp -implicitDefEqProofs (disch := first | omega | (simp only [List.length_map, List.length_cons, List.length_nil, List.length_append, List.length_range, List.length_replicate]; omega)) only [sq_e, sqK_nx, sqK_ret, sqK_bk, sqK_ct, skip_e, setE_e, newE_e, rt_e, brk_e, cnt_e, ifS_e, ifK_t, ifK_f, ifX_t, ifX_f, ifT_t, ifT_f, fncK_ret, fncK_nx, ctK_nx, ctK_ct, ctK_ret, lcK_e, lstK_e, tupK_e, tupK_f, tupK_cat, ftupD_lst, ftupE_e, lenD_f, getD_f, addD_ff, blK_e, ovK_e, vaK_e, ife_e, var_e, ovar_e, cst_e, op1_e, op2_e, op3_e, aN_e, aC_e, tupE_e, lstE_e, cal_e, f1_e, cmp_e, flip_e, neg_e, chn_e, boo_e, tes_e, ff_e, tt_e, andT_e, orT_e, notT_e, fX_e, tX_e, andV_e, orV_e, notV_e, isN_e, yes_e, asg_e, gD_n, gD_t, gDs_n, gDs_c, frz_e, mov_e, movO_e, forE_e, iLst_e, iTp_e, iRng_e, one1_c, two2_c, iZp_e, lcE_e, lc2E_e, wip_n, wip_c, noOwn_n, noOwn_c, noO_no, noO_val, fnc_e, ini_e, met_e, fld_e, slE_e, prK_e, prt_e, prN_e, dic1_e, appK_e, app_e, extK_e, ext_e, stK_e, drpA_e, drpK_e, addD_int, addD_tup, addD_lst, subD_int, mulD_l, mulD_r, modD_int, divD_int, intD_int, intD_bl, ltD_int, leD_int, eqD_int, eqD_bl, lenD_tup, lenD_scr, tupD_lst, listD_lst, listD_tup, revL_lst, isBool_bl, max2_int, isBD_bl, revT_tup, iEnum_e, iItm_e, iSq_e, isC_i, isLst_l, addI_int, subI_int, iZm_e, seqK_t, seqK_l, dcE_e, getD_l, getD_t, getD_s, rngL_n, rngL_i, rngL_2, sumL_ints, sumT_tup, sumT_lst, allL_bls, anyL_bls, lcT_t, lcT_f, set_0, set_s, szL_le, szL_lt, Option.bind_some, Option.map_some, List.map_cons, List.map_nil, List.length_cons, List.length_nil, List.length_map, List.length_range, List.getElem?_cons_zero, List.getElem?_cons_succ, List.getElem?_map, List.replicate_succ, List.replicate_zero, List.cons_append, List.nil_append, if_true, if_false, ite_true, ite_false, Bool.and_true, Bool.true_and, Bool.and_self, and_true, true_and, and_self, decide_true, decide_false, Bool.not_true, Bool.not_false, eq_self, Int.toNat_natCast, Int.toNat_zero, Nat.reduceAdd, Nat.reduceSub, Nat.reduceLeDiff, Nat.reduceMul, Nat.reduceEqDiff, Int.reduceToNat, Nat.zero_add, Nat.reduceLT, Int.reduceLT, Int.reduceLE, Int.reduceEq, Int.reduceNe, Int.reduceMul, Int.reduceAdd, Int.reducePow, Bool.false_eq_true, reduceCtorEq, not_true_eq_false, not_false_eq_true, ne_eq, Option.getD_some, if_pos, List.length_append, List.length_replicate, msI, maI, msT, maT, msP, maR, q1, neg_e, q2, h0']
      rfl
    · have h0' : ((N.length : Int) = 0) ↔ False := iff_false_intro (by omega)
      by_cases h8 : 8 < N.length
      · have h8' : ((8 : Int) < (N.length : Int)) ↔ True := iff_true_intro (by omega)
        rw [decide_eq_false (p := 1 ≤ N.length ∧ N.length ≤ 8) (by omega)]
        simp -implicitDefEqProofs (disch := first | omega | (simp only [List.length_map, List.length_cons, List.length_nil, List.length_append, List.length_range, List.length_replicate]; omega)) only [sq_e, sqK_nx, sqK_ret, sqK_bk, sqK_ct, skip_e, setE_e, newE_e, rt_e, brk_e, cnt_e, ifS_e, ifK_t, ifK_f, ifX_t, ifX_f, ifT_t, ifT_f, fncK_ret, fncK_nx, ctK_nx, ctK_ct, ctK_ret, lcK_e, lstK_e, tupK_e, tupK_f, tupK_cat, ftupD_lst, ftupE_e, lenD_f, getD_f, addD_ff, blK_e, ovK_e, vaK_e, ife_e, var_e, ovar_e, cst_e, op1_e, op2_e, op3_e, aN_e, aC_e, tupE_e, lstE_e, cal_e, f1_e, cmp_e, flip_e, neg_e, chn_e, boo_e, tes_e, ff_e, tt_e, andT_e, orT_e, notT_e, fX_e, tX_e, andV_e, orV_e, notV_e, isN_e, yes_e, asg_e, gD_n, gD_t, gDs_n, gDs_c, frz_e, mov_e, movO_e, forE_e, iLst_e, iTp_e, iRng_e, one1_c, two2_c, iZp_e, lcE_e, lc2E_e, wip_n, wip_c, noOwn_n, noOwn_c, noO_no, noO_val, fnc_e, ini_e, met_e, fld_e, slE_e, prK_e, prt_e, prN_e, dic1_e, appK_e, app_e, extK_e, ext_e, stK_e, drpA_e, drpK_e, addD_int, addD_tup, addD_lst, subD_int, mulD_l, mulD_r, modD_int, divD_int, intD_int, intD_bl, ltD_int, leD_int, eqD_int, eqD_bl, lenD_tup, lenD_scr, tupD_lst, listD_lst, listD_tup, revL_lst, isBool_bl, max2_int, isBD_bl, revT_tup, iEnum_e, iItm_e, iSq_e, isC_i, isLst_l, addI_int, subI_int, iZm_e, seqK_t, seqK_l, dcE_e, getD_l, getD_t, getD_s, rngL_n, rngL_i, rngL_2, sumL_ints, sumT_tup, sumT_lst, allL_bls, anyL_bls, lcT_t, lcT_f, set_0, set_s, szL_le, szL_lt, Option.bind_some, Option.map_some, List.map_cons, List.map_nil, List.length_cons, List.length_nil, List.length_map, List.length_range, List.getElem?_cons_zero, List.getElem?_cons_succ, List.getElem?_map, List.replicate_succ, List.replicate_zero, List.cons_append, List.nil_append, if_true, if_false, ite_true, ite_false, Bool.and_true, Bool.true_and, Bool.and_self, and_true, true_and, and_self, decide_true, decide_false, Bool.not_true, Bool.not_false, eq_self, Int.toNat_natCast, Int.toNat_zero, Nat.reduceAdd, Nat.reduceSub, Nat.reduceLeDiff, Nat.reduceMul, Nat.reduceEqDiff, Int.reduceToNat, Nat.zero_add, Nat.reduceLT, Int.reduceLT, Int.reduceLE, Int.reduceEq, Int.reduceNe, Int.reduceMul, Int.reduceAdd, Int.reducePow, Bool.false_eq_true, reduceCtorEq, not_true_eq_false, not_false_eq_true, ne_eq, Option.getD_some, if_pos, List.length_append, List.length_replicate, msI, maI, msT, maT, msP, maR, q1, neg_e, q2, h0', h8']
        rfl
      · have h8' : ((8 : Int) < (N.length : Int)) ↔ False := iff_false_intro (by omega)
        rw [decide_eq_true (p := 1 ≤ N.length ∧ N.length ≤ 8) (by omega)]
        by_cases hd : (dst (N.map sS)).length < N.length
        · have hd' : (((dst (N.map sS)).length : Int) < (N.length : Int)) ↔ True := iff_true_intro (by omega)
          rw [decide_eq_false (p := ¬ (dst (N.map sS)).length < N.length) (fun z => z hd)]
          simp -implicitDefEqProofs (disch := first | omega | (simp only [List.length_map, List.length_cons, List.length_nil, List.length_append, List.length_range, List.length_replicate]; omega)) only [sq_e, sqK_nx, sqK_ret, sqK_bk, sqK_ct, skip_e, setE_e, newE_e, rt_e, brk_e, cnt_e, ifS_e, ifK_t, ifK_f, ifX_t, ifX_f, ifT_t, ifT_f, fncK_ret, fncK_nx, ctK_nx, ctK_ct, ctK_ret, lcK_e, lstK_e, tupK_e, tupK_f, tupK_cat, ftupD_lst, ftupE_e, lenD_f, getD_f, addD_ff, blK_e, ovK_e, vaK_e, ife_e, var_e, ovar_e, cst_e, op1_e, op2_e, op3_e, aN_e, aC_e, tupE_e, lstE_e, cal_e, f1_e, cmp_e, flip_e, neg_e, chn_e, boo_e, tes_e, ff_e, tt_e, andT_e, orT_e, notT_e, fX_e, tX_e, andV_e, orV_e, notV_e, isN_e, yes_e, asg_e, gD_n, gD_t, gDs_n, gDs_c, frz_e, mov_e, movO_e, forE_e, iLst_e, iTp_e, iRng_e, one1_c, two2_c, iZp_e, lcE_e, lc2E_e, wip_n, wip_c, noOwn_n, noOwn_c, noO_no, noO_val, fnc_e, ini_e, met_e, fld_e, slE_e, prK_e, prt_e, prN_e, dic1_e, appK_e, app_e, extK_e, ext_e, stK_e, drpA_e, drpK_e, addD_int, addD_tup, addD_lst, subD_int, mulD_l, mulD_r, modD_int, divD_int, intD_int, intD_bl, ltD_int, leD_int, eqD_int, eqD_bl, lenD_tup, lenD_scr, tupD_lst, listD_lst, listD_tup, revL_lst, isBool_bl, max2_int, isBD_bl, revT_tup, iEnum_e, iItm_e, iSq_e, isC_i, isLst_l, addI_int, subI_int, iZm_e, seqK_t, seqK_l, dcE_e, getD_l, getD_t, getD_s, rngL_n, rngL_i, rngL_2, sumL_ints, sumT_tup, sumT_lst, allL_bls, anyL_bls, lcT_t, lcT_f, set_0, set_s, szL_le, szL_lt, Option.bind_some, Option.map_some, List.map_cons, List.map_nil, List.length_cons, List.length_nil, List.length_map, List.length_range, List.getElem?_cons_zero, List.getElem?_cons_succ, List.getElem?_map, List.replicate_succ, List.replicate_zero, List.cons_append, List.nil_append, if_true, if_false, ite_true, ite_false, Bool.and_true, Bool.true_and, Bool.and_self, and_true, true_and, and_self, decide_true, decide_false, Bool.not_true, Bool.not_false, eq_self, Int.toNat_natCast, Int.toNat_zero, Nat.reduceAdd, Nat.reduceSub, Nat.reduceLeDiff, Nat.reduceMul, Nat.reduceEqDiff, Int.reduceToNat, Nat.zero_add, Nat.reduceLT, Int.reduceLT, Int.reduceLE, Int.reduceEq, Int.reduceNe, Int.reduceMul, Int.reduceAdd, Int.reducePow, Bool.false_eq_true, reduceCtorEq, not_true_eq_false, not_false_eq_true, ne_eq, Option.getD_some, if_pos, List.length_append, List.length_replicate, msI, maI, msT, maT, msP, maR, q1, neg_e, q2, h0', h8', q3, hd']
          simp
        · have hd' : (((dst (N.map sS)).length : Int) < (N.length : Int)) ↔ False := iff_false_intro (by omega)
          rw [decide_eq_true (p := ¬ (dst (N.map sS)).length < N.length) hd]
          have q7 : getD (.lst [.int 0, .int 0, .int 8, .int 5, .int 0, .int 3, .int 0, .int 2]) (.int v) = some (nD (tbl v)) := by
            rcases hv with rfl | rfl | rfl | rfl <;> rfl
          have q8 : ((N.length : Int) ≤ (tbl v : Int)) ↔ N.length ≤ tbl v := by omega
          cases ha : N.all nmB with
          | false =>
            rw [ha] at q5
            simp -implicitDefEqProofs (disch := first | omega | (simp only [List.length_map, List.length_cons, List.length_nil, List.length_append, List.length_range, List.length_replicate]; omega)) only [sq_e, sqK_nx, sqK_ret, sqK_bk, sqK_ct, skip_e, setE_e, newE_e, rt_e, brk_e, cnt_e, ifS_e, ifK_t, ifK_f, ifX_t, ifX_f, ifT_t, ifT_f, fncK_ret, fncK_nx, ctK_nx, ctK_ct, ctK_ret, lcK_e, lstK_e, tupK_e, tupK_f, tupK_cat, ftupD_lst, ftupE_e, lenD_f, getD_f, addD_ff, blK_e, ovK_e, vaK_e, ife_e, var_e, ovar_e, cst_e, op1_e, op2_e, op3_e, aN_e, aC_e, tupE_e, lstE_e, cal_e, f1_e, cmp_e, flip_e, neg_e, chn_e, boo_e, tes_e, ff_e, tt_e, andT_e, orT_e, notT_e, fX_e, tX_e, andV_e, orV_e, notV_e, isN_e, yes_e, asg_e, gD_n, gD_t, gDs_n, gDs_c, frz_e, mov_e, movO_e, forE_e, iLst_e, iTp_e, iRng_e, one1_c, two2_c, iZp_e, lcE_e, lc2E_e, wip_n, wip_c, noOwn_n, noOwn_c, noO_no, noO_val, fnc_e, ini_e, met_e, fld_e, slE_e, prK_e, prt_e, prN_e, dic1_e, appK_e, app_e, extK_e, ext_e, stK_e, drpA_e, drpK_e, addD_int, addD_tup, addD_lst, subD_int, mulD_l, mulD_r, modD_int, divD_int, intD_int, intD_bl, ltD_int, leD_int, eqD_int, eqD_bl, lenD_tup, lenD_scr, tupD_lst, listD_lst, listD_tup, revL_lst, isBool_bl, max2_int, isBD_bl, revT_tup, iEnum_e, iItm_e, iSq_e, isC_i, isLst_l, addI_int, subI_int, iZm_e, seqK_t, seqK_l, dcE_e, getD_l, getD_t, getD_s, rngL_n, rngL_i, rngL_2, sumL_ints, sumT_tup, sumT_lst, allL_bls, anyL_bls, lcT_t, lcT_f, set_0, set_s, szL_le, szL_lt, Option.bind_some, Option.map_some, List.map_cons, List.map_nil, List.length_cons, List.length_nil, List.length_map, List.length_range, List.getElem?_cons_zero, List.getElem?_cons_succ, List.getElem?_map, List.replicate_succ, List.replicate_zero, List.cons_append, List.nil_append, if_true, if_false, ite_true, ite_false, Bool.and_true, Bool.true_and, Bool.and_self, and_true, true_and, and_self, decide_true, decide_false, Bool.not_true, Bool.not_false, eq_self, Int.toNat_natCast, Int.toNat_zero, Nat.reduceAdd, Nat.reduceSub, Nat.reduceLeDiff, Nat.reduceMul, Nat.reduceEqDiff, Int.reduceToNat, Nat.zero_add, Nat.reduceLT, Int.reduceLT, Int.reduceLE, Int.reduceEq, Int.reduceNe, Int.reduceMul, Int.reduceAdd, Int.reducePow, Bool.false_eq_true, reduceCtorEq, not_true_eq_false, not_false_eq_true, ne_eq, Option.getD_some, if_pos, List.length_append, List.length_replicate, msI, maI, msT, maT, msP, maR, q1, neg_e, q2, h0', h8', q3, hd', hz, q4, q5]
            simp
          | true =>
            rw [ha] at q5
            by_cases ht : N.length ≤ tbl v
            · have ht' : ((N.length : Int) ≤ (tbl v : Int)) ↔ True := iff_true_intro (by omega)
              rw [decide_eq_true ht]
              simp -implicitDefEqProofs (disch := first | omega | (simp only [List.length_map, List.length_cons, List.length_nil, List.length_append, List.length_range, List.length_replicate]; omega)) only [sq_e, sqK_nx, sqK_ret, sqK_bk, sqK_ct, skip_e, setE_e, newE_e, rt_e, brk_e, cnt_e, ifS_e, ifK_t, ifK_f, ifX_t, ifX_f, ifT_t, ifT_f, fncK_ret, fncK_nx, ctK_nx, ctK_ct, ctK_ret, lcK_e, lstK_e, tupK_e, tupK_f, tupK_cat, ftupD_lst, ftupE_e, lenD_f, getD_f, addD_ff, blK_e, ovK_e, vaK_e, ife_e, var_e, ovar_e, cst_e, op1_e, op2_e, op3_e, aN_e, aC_e, tupE_e, lstE_e, cal_e, f1_e, cmp_e, flip_e, neg_e, chn_e, boo_e, tes_e, ff_e, tt_e, andT_e, orT_e, notT_e, fX_e, tX_e, andV_e, orV_e, notV_e, isN_e, yes_e, asg_e, gD_n, gD_t, gDs_n, gDs_c, frz_e, mov_e, movO_e, forE_e, iLst_e, iTp_e, iRng_e, one1_c, two2_c, iZp_e, lcE_e, lc2E_e, wip_n, wip_c, noOwn_n, noOwn_c, noO_no, noO_val, fnc_e, ini_e, met_e, fld_e, slE_e, prK_e, prt_e, prN_e, dic1_e, appK_e, app_e, extK_e, ext_e, stK_e, drpA_e, drpK_e, addD_int, addD_tup, addD_lst, subD_int, mulD_l, mulD_r, modD_int, divD_int, intD_int, intD_bl, ltD_int, leD_int, eqD_int, eqD_bl, lenD_tup, lenD_scr, tupD_lst, listD_lst, listD_tup, revL_lst, isBool_bl, max2_int, isBD_bl, revT_tup, iEnum_e, iItm_e, iSq_e, isC_i, isLst_l, addI_int, subI_int, iZm_e, seqK_t, seqK_l, dcE_e, getD_t, getD_s, rngL_n, rngL_i, rngL_2, sumL_ints, sumT_tup, sumT_lst, allL_bls, anyL_bls, lcT_t, lcT_f, set_0, set_s, szL_le, szL_lt, Option.bind_some, Option.map_some, List.map_cons, List.map_nil, List.length_cons, List.length_nil, List.length_map, List.length_range, List.getElem?_cons_zero, List.getElem?_cons_succ, List.getElem?_map, List.replicate_succ, List.replicate_zero, List.cons_append, List.nil_append, if_true, if_false, ite_true, ite_false, Bool.and_true, Bool.true_and, Bool.and_self, and_true, true_and, and_self, decide_true, decide_false, Bool.not_true, Bool.not_false, eq_self, Int.toNat_natCast, Int.toNat_zero, Nat.reduceAdd, Nat.reduceSub, Nat.reduceLeDiff, Nat.reduceMul, Nat.reduceEqDiff, Int.reduceToNat, Nat.zero_add, Nat.reduceLT, Int.reduceLT, Int.reduceLE, Int.reduceEq, Int.reduceNe, Int.reduceMul, Int.reduceAdd, Int.reducePow, Bool.false_eq_true, reduceCtorEq, not_true_eq_false, not_false_eq_true, ne_eq, Option.getD_some, if_pos, List.length_append, List.length_replicate, msI, maI, msT, maT, msP, maR, q1, neg_e, q2, h0', h8', q3, hd', hz, q4, q5, q7, ht']
              try rfl
            · have ht' : ((N.length : Int) ≤ (tbl v : Int)) ↔ False := iff_false_intro (by omega)
              rw [decide_eq_false ht]
              simp -implicitDefEqProofs (disch := first | omega | (simp only [List.length_map, List.length_cons, List.length_nil, List.length_append, List.length_range, List.length_replicate]; omega)) only [sq_e, sqK_nx, sqK_ret, sqK_bk, sqK_ct, skip_e, setE_e, newE_e, rt_e, brk_e, cnt_e, ifS_e, ifK_t, ifK_f, ifX_t, ifX_f, ifT_t, ifT_f, fncK_ret, fncK_nx, ctK_nx, ctK_ct, ctK_ret, lcK_e, lstK_e, tupK_e, tupK_f, tupK_cat, ftupD_lst, ftupE_e, lenD_f, getD_f, addD_ff, blK_e, ovK_e, vaK_e, ife_e, var_e, ovar_e, cst_e, op1_e, op2_e, op3_e, aN_e, aC_e, tupE_e, lstE_e, cal_e, f1_e, cmp_e, flip_e, neg_e, chn_e, boo_e, tes_e, ff_e, tt_e, andT_e, orT_e, notT_e, fX_e, tX_e, andV_e, orV_e, notV_e, isN_e, yes_e, asg_e, gD_n, gD_t, gDs_n, gDs_c, frz_e, mov_e, movO_e, forE_e, iLst_e, iTp_e, iRng_e, one1_c, two2_c, iZp_e, lcE_e, lc2E_e, wip_n, wip_c, noOwn_n, noOwn_c, noO_no, noO_val, fnc_e, ini_e, met_e, fld_e, slE_e, prK_e, prt_e, prN_e, dic1_e, appK_e, app_e, extK_e, ext_e, stK_e, drpA_e, drpK_e, addD_int, addD_tup, addD_lst, subD_int, mulD_l, mulD_r, modD_int, divD_int, intD_int, intD_bl, ltD_int, leD_int, eqD_int, eqD_bl, lenD_tup, lenD_scr, tupD_lst, listD_lst, listD_tup, revL_lst, isBool_bl, max2_int, isBD_bl, revT_tup, iEnum_e, iItm_e, iSq_e, isC_i, isLst_l, addI_int, subI_int, iZm_e, seqK_t, seqK_l, dcE_e, getD_t, getD_s, rngL_n, rngL_i, rngL_2, sumL_ints, sumT_tup, sumT_lst, allL_bls, anyL_bls, lcT_t, lcT_f, set_0, set_s, szL_le, szL_lt, Option.bind_some, Option.map_some, List.map_cons, List.map_nil, List.length_cons, List.length_nil, List.length_map, List.length_range, List.getElem?_cons_zero, List.getElem?_cons_succ, List.getElem?_map, List.replicate_succ, List.replicate_zero, List.cons_append, List.nil_append, if_true, if_false, ite_true, ite_false, Bool.and_true, Bool.true_and, Bool.and_self, and_true, true_and, and_self, decide_true, decide_false, Bool.not_true, Bool.not_false, eq_self, Int.toNat_natCast, Int.toNat_zero, Nat.reduceAdd, Nat.reduceSub, Nat.reduceLeDiff, Nat.reduceMul, Nat.reduceEqDiff, Int.reduceToNat, Nat.zero_add, Nat.reduceLT, Int.reduceLT, Int.reduceLE, Int.reduceEq, Int.reduceNe, Int.reduceMul, Int.reduceAdd, Int.reducePow, Bool.false_eq_true, reduceCtorEq, not_true_eq_false, not_false_eq_true, ne_eq, Option.getD_some, if_pos, List.length_append, List.length_replicate, msI, maI, msT, maT, msP, maR, q1, neg_e, q2, h0', h8', q3, hd', hz, q4, q5, q7, ht']
              try rfl
  · rw [decide_eq_false hv] at q1 ⊢
    simp_arith [q1, neg_e]
    rfl
theorem gsq_t {t : Tx} {f : Sx} {r : DEnv → Bool} {e : DEnv} (h : t e = some true) : gSq (gIf t gY gN) f r e = true := by simp [gSq, gIf, gY, h]
theorem gsq_f {t : Tx} {r : DEnv → Bool} {e : DEnv} (h : t e = some false) : gSq (gIf t gY gN) (ifS t stuck skip) r e = r e := by simp [gSq, gIf, gN, ifS, h, skip]
theorem gsq_n {f : Sx} {r : DEnv → Bool} (h : ∀ e, r e = false) (e : DEnv) : gSq gN f r e = false := by
  unfold gSq
  simp only [gN, Bool.false_or]
  split
  · exact h _
  · rfl
section
variable {v : Int} {N : List (List Nat)}
theorem tests (hl : N.length ≤ 20) (hN : ∀ w ∈ N, w.length ≤ 100) {s2 : DSlot} {x2 : Ex} (hx : x2 [.slf (.ins "Space" [] []), .val (.int v), s2, .no] = some (.lst (N.map txD))) :
    (orT (inC true ([2, 3, 5, 7].map D.int) (var 1)) (notT (chn leD leD (cst (.int 1)) (cal (f1 lenD) (aC x2 aN)) (cst (.int 8))))) [.slf (.ins "Space" [] []), .val (.int v), s2, .no] = some (!(decide (v = 2 ∨ v = 3 ∨ v = 5 ∨ v = 7) && decide (1 ≤ N.length ∧ N.length ≤ 8))) := by
  have q1 := inC_p v
  have q2 := lens_t N
  generalize N.map txD = NN at hx q2
  have e1 : (inC true [.int 2, .int 3, .int 5, .int 7] (var 1)) [.slf (.ins "Space" [] []), .val (.int v), s2, .no] = some (!decide (v = 2 ∨ v = 3 ∨ v = 5 ∨ v = 7)) := by
    rw [inC_e]; exact q1
  have e2 : (cal (f1 lenD) (aC x2 aN)) [.slf (.ins "Space" [] []), .val (.int v), s2, .no] = some (nD N.length) := by
    simp only [cal, aC, hx, aN, Option.bind_some, f1]
    exact q2
  by_cases hv : v = 2 ∨ v = 3 ∨ v = 5 ∨ v = 7
  · rw [decide_eq_true hv] at e1 ⊢
    rw [Bool.not_true] at e1
    by_cases h1 : 1 ≤ N.length
    · have h1' : ((1 : Int) ≤ (N.length : Int)) ↔ True := iff_true_intro (by omega)
      by_cases h8 : N.length ≤ 8
      · have h8' : ((N.length : Int) ≤ 8) ↔ True := iff_true_intro (by omega)
        rw [decide_eq_true (p := 1 ≤ N.length ∧ N.length ≤ 8) ⟨h1, h8⟩]
        simp -implicitDefEqProofs (disch := first | omega | (simp only [List.length_map, List.length_cons, List.length_nil, List.length_append, List.length_range, List.length_replicate]; omega)) only [sq_e, sqK_nx, sqK_ret, sqK_bk, sqK_ct, skip_e, setE_e, newE_e, rt_e, brk_e, cnt_e, ifS_e, ifK_t, ifK_f, ifX_t, ifX_f, ifT_t, ifT_f, fncK_ret, fncK_nx, ctK_nx, ctK_ct, ctK_ret, lcK_e, lstK_e, tupK_e, tupK_f, tupK_cat, ftupD_lst, ftupE_e, lenD_f, getD_f, addD_ff, blK_e, ovK_e, vaK_e, ife_e, var_e, ovar_e, cst_e, op1_e, op2_e, op3_e, aN_e, aC_e, tupE_e, lstE_e, cal_e, f1_e, cmp_e, flip_e, neg_e, chn_e, boo_e, tes_e, ff_e, tt_e, andT_e, orT_e, notT_e, fX_e, tX_e, andV_e, orV_e, notV_e, isN_e, yes_e, asg_e, gD_n, gD_t, gDs_n, gDs_c, frz_e, mov_e, movO_e, forE_e, iLst_e, iTp_e, iRng_e, one1_c, two2_c, iZp_e, lcE_e, lc2E_e, wip_n, wip_c, noOwn_n, noOwn_c, noO_no, noO_val, fnc_e, ini_e, met_e, fld_e, slE_e, prK_e, prt_e, prN_e, dic1_e, appK_e, app_e, extK_e, ext_e, stK_e, drpA_e, drpK_e, addD_int, addD_tup, addD_lst, subD_int, mulD_l, mulD_r, modD_int, divD_int, intD_int, intD_bl, ltD_int, leD_int, eqD_int, eqD_bl, lenD_tup, lenD_scr, tupD_lst, listD_lst, listD_tup, revL_lst, isBool_bl, max2_int, isBD_bl, revT_tup, iEnum_e, iItm_e, iSq_e, isC_i, isLst_l, addI_int, subI_int, iZm_e, seqK_t, seqK_l, dcE_e, getD_l, getD_t, getD_s, rngL_n, rngL_i, rngL_2, sumL_ints, sumT_tup, sumT_lst, allL_bls, anyL_bls, lcT_t, lcT_f, set_0, set_s, szL_le, szL_lt, Option.bind_some, Option.map_some, List.map_cons, List.map_nil, List.length_cons, List.length_nil, List.length_map, List.length_range, List.getElem?_cons_zero, List.getElem?_cons_succ, List.getElem?_map, List.replicate_succ, List.replicate_zero, List.cons_append, List.nil_append, if_true, if_false, ite_true, ite_false, Bool.and_true, Bool.true_and, Bool.and_self, and_true, true_and, and_self, decide_true, decide_false, Bool.not_true, Bool.not_false, eq_self, Int.toNat_natCast, Int.toNat_zero, Nat.reduceAdd, Nat.reduceSub, Nat.reduceLeDiff, Nat.reduceMul, Nat.reduceEqDiff, Int.reduceToNat, Nat.zero_add, Nat.reduceLT, Int.reduceLT, Int.reduceLE, Int.reduceEq, Int.reduceNe, Int.reduceMul, Int.reduceAdd, Int.reducePow, Bool.false_eq_true, reduceCtorEq, not_true_eq_false, not_false_eq_true, ne_eq, Option.getD_some, if_pos, List.length_append, List.length_replicate, msI, maI, msT, maT, msP, maR, e1, hx, q2, h1', h8']
        try rfl
      · have h8' : ((N.length : Int) ≤ 8) ↔ False := iff_false_intro (by omega)
        rw [decide_eq_false (p := 1 ≤ N.length ∧ N.length ≤ 8) (by omega)]
        simp -implicitDefEqProofs (disch := first | omega | (simp only [List.length_map, List.length_cons, List.length_nil, List.length_append, List.length_range, List.length_replicate]; omega)) only [sq_e, sqK_nx, sqK_ret, sqK_bk, sqK_ct, skip_e, setE_e, newE_e, rt_e, brk_e, cnt_e, ifS_e, ifK_t, ifK_f, ifX_t, ifX_f, ifT_t, ifT_f, fncK_ret, fncK_nx, ctK_nx, ctK_ct, ctK_ret, lcK_e, lstK_e, tupK_e, tupK_f, tupK_cat, ftupD_lst, ftupE_e, lenD_f, getD_f, addD_ff, blK_e, ovK_e, vaK_e, ife_e, var_e, ovar_e, cst_e, op1_e, op2_e, op3_e, aN_e, aC_e, tupE_e, lstE_e, cal_e, f1_e, cmp_e, flip_e, neg_e, chn_e, boo_e, tes_e, ff_e, tt_e, andT_e, orT_e, notT_e, fX_e, tX_e, andV_e, orV_e, notV_e, isN_e, yes_e, asg_e, gD_n, gD_t, gDs_n, gDs_c, frz_e, mov_e, movO_e, forE_e, iLst_e, iTp_e, iRng_e, one1_c, two2_c, iZp_e, lcE_e, lc2E_e, wip_n, wip_c, noOwn_n, noOwn_c, noO_no, noO_val, fnc_e, ini_e, met_e, fld_e, slE_e, prK_e, prt_e, prN_e, dic1_e, appK_e, app_e, extK_e, ext_e, stK_e, drpA_e, drpK_e, addD_int, addD_tup, addD_lst, subD_int, mulD_l, mulD_r, modD_int, divD_int, intD_int, intD_bl, ltD_int, leD_int, eqD_int, eqD_bl, lenD_tup, lenD_scr, tupD_lst, listD_lst, listD_tup, revL_lst, isBool_bl, max2_int, isBD_bl, revT_tup, iEnum_e, iItm_e, iSq_e, isC_i, isLst_l, addI_int, subI_int, iZm_e, seqK_t, seqK_l, dcE_e, getD_l, getD_t, getD_s, rngL_n, rngL_i, rngL_2, sumL_ints, sumT_tup, sumT_lst, allL_bls, anyL_bls, lcT_t, lcT_f, set_0, set_s, szL_le, szL_lt, Option.bind_some, Option.map_some, List.map_cons, List.map_nil, List.length_cons, List.length_nil, List.length_map, List.length_range, List.getElem?_cons_zero, List.getElem?_cons_succ, List.getElem?_map, List.replicate_succ, List.replicate_zero, List.cons_append, List.nil_append, if_true, if_false, ite_true, ite_false, Bool.and_true, Bool.true_and, Bool.and_self, and_true, true_and, and_self, decide_true, decide_false, Bool.not_true, Bool.not_false, eq_self, Int.toNat_natCast, Int.toNat_zero, Nat.reduceAdd, Nat.reduceSub, Nat.reduceLeDiff, Nat.reduceMul, Nat.reduceEqDiff, Int.reduceToNat, Nat.zero_add, Nat.reduceLT, Int.reduceLT, Int.reduceLE, Int.reduceEq, Int.reduceNe, Int.reduceMul, Int.reduceAdd, Int.reducePow, Bool.false_eq_true, reduceCtorEq, not_true_eq_false, not_false_eq_true, ne_eq, Option.getD_some, if_pos, List.length_append, List.length_replicate, msI, maI, msT, maT, msP, maR, e1, hx, q2, h1', h8']
        try rfl
    · have h1' : ((1 : Int) ≤ (N.length : Int)) ↔ False := iff_false_intro (by omega)
      rw [decide_eq_false (p := 1 ≤ N.length ∧ N.length ≤ 8) (by omega)]
      simp -implicitDefEqProofs (disch := first | omega | (simp only [List.length_map, List.length_cons, List.length_nil, List.length_append, List.length_range, List.length_replicate]; omega)) only [sq_e, sqK_nx, sqK_ret, sqK_bk, sqK_ct, skip_e, setE_e, newE_e, rt_e, brk_e, cnt_e, ifS_e, ifK_t, ifK_f, ifX_t, ifX_f, ifT_t, ifT_f, fncK_ret, fncK_nx, ctK_nx, ctK_ct, ctK_ret, lcK_e, lstK_e, tupK_e, tupK_f, tupK_cat, ftupD_lst, ftupE_e, lenD_f, getD_f, addD_ff, blK_e, ovK_e, vaK_e, ife_e, var_e, ovar_e, cst_e, op1_e, op2_e, op3_e, aN_e, aC_e, tupE_e, lstE_e, cal_e, f1_e, cmp_e, flip_e, neg_e, chn_e, boo_e, tes_e, ff_e, tt_e, andT_e, orT_e, notT_e, fX_e, tX_e, andV_e, orV_e, notV_e, isN_e, yes_e, asg_e, gD_n, gD_t, gDs_n, gDs_c, frz_e, mov_e, movO_e, forE_e, iLst_e, iTp_e, iRng_e, one1_c, two2_c, iZp_e, lcE_e, lc2E_e, wip_n, wip_c, noOwn_n, noOwn_c, noO_no, noO_val, fnc_e, ini_e, met_e, fld_e, slE_e, prK_e, prt_e, prN_e, dic1_e, appK_e, app_e, extK_e, ext_e, stK_e, drpA_e, drpK_e, addD_int, addD_tup, addD_lst, subD_int, mulD_l, mulD_r, modD_int, divD_int, intD_int, intD_bl, ltD_int, leD_int, eqD_int, eqD_bl, lenD_tup, lenD_scr, tupD_lst, listD_lst, listD_tup, revL_lst, isBool_bl, max2_int, isBD_bl, revT_tup, iEnum_e, iItm_e, iSq_e, isC_i, isLst_l, addI_int, subI_int, iZm_e, seqK_t, seqK_l, dcE_e, getD_l, getD_t, getD_s, rngL_n, rngL_i, rngL_2, sumL_ints, sumT_tup, sumT_lst, allL_bls, anyL_bls, lcT_t, lcT_f, set_0, set_s, szL_le, szL_lt, Option.bind_some, Option.map_some, List.map_cons, List.map_nil, List.length_cons, List.length_nil, List.length_map, List.length_range, List.getElem?_cons_zero, List.getElem?_cons_succ, List.getElem?_map, List.replicate_succ, List.replicate_zero, List.cons_append, List.nil_append, if_true, if_false, ite_true, ite_false, Bool.and_true, Bool.true_and, Bool.and_self, and_true, true_and, and_self, decide_true, decide_false, Bool.not_true, Bool.not_false, eq_self, Int.toNat_natCast, Int.toNat_zero, Nat.reduceAdd, Nat.reduceSub, Nat.reduceLeDiff, Nat.reduceMul, Nat.reduceEqDiff, Int.reduceToNat, Nat.zero_add, Nat.reduceLT, Int.reduceLT, Int.reduceLE, Int.reduceEq, Int.reduceNe, Int.reduceMul, Int.reduceAdd, Int.reducePow, Bool.false_eq_true, reduceCtorEq, not_true_eq_false, not_false_eq_true, ne_eq, Option.getD_some, if_pos, List.length_append, List.length_replicate, msI, maI, msT, maT, msP, maR, e1, hx, q2, h1']
      try rfl
  · rw [decide_eq_false hv] at e1 ⊢
    rw [Bool.not_false] at e1
    simp -implicitDefEqProofs (disch := first | omega | (simp only [List.length_map, List.length_cons, List.length_nil, List.length_append, List.length_range, List.length_replicate]; omega)) only [sq_e, sqK_nx, sqK_ret, sqK_bk, sqK_ct, skip_e, setE_e, newE_e, rt_e, brk_e, cnt_e, ifS_e, ifK_t, ifK_f, ifX_t, ifX_f, ifT_t, ifT_f, fncK_ret, fncK_nx, ctK_nx, ctK_ct, ctK_ret, lcK_e, lstK_e, tupK_e, tupK_f, tupK_cat, ftupD_lst, ftupE_e, lenD_f, getD_f, addD_ff, blK_e, ovK_e, vaK_e, ife_e, var_e, ovar_e, cst_e, op1_e, op2_e, op3_e, aN_e, aC_e, tupE_e, lstE_e, cal_e, f1_e, cmp_e, flip_e, neg_e, chn_e, boo_e, tes_e, ff_e, tt_e, andT_e, orT_e, notT_e, fX_e, tX_e, andV_e, orV_e, notV_e, isN_e, yes_e, asg_e, gD_n, gD_t, gDs_n, gDs_c, frz_e, mov_e, movO_e, forE_e, iLst_e, iTp_e, iRng_e, one1_c, two2_c, iZp_e, lcE_e, lc2E_e, wip_n, wip_c, noOwn_n, noOwn_c, noO_no, noO_val, fnc_e, ini_e, met_e, fld_e, slE_e, prK_e, prt_e, prN_e, dic1_e, appK_e, app_e, extK_e, ext_e, stK_e, drpA_e, drpK_e, addD_int, addD_tup, addD_lst, subD_int, mulD_l, mulD_r, modD_int, divD_int, intD_int, intD_bl, ltD_int, leD_int, eqD_int, eqD_bl, lenD_lst, lenD_tup, lenD_scr, tupD_lst, listD_lst, listD_tup, revL_lst, isBool_bl, max2_int, isBD_bl, revT_tup, iEnum_e, iItm_e, iSq_e, isC_i, isLst_l, addI_int, subI_int, iZm_e, seqK_t, seqK_l, dcE_e, getD_l, getD_t, getD_s, rngL_n, rngL_i, rngL_2, sumL_ints, sumT_tup, sumT_lst, allL_bls, anyL_bls, lcT_t, lcT_f, set_0, set_s, szL_le, szL_lt, Option.bind_some, Option.map_some, List.map_cons, List.map_nil, List.length_cons, List.length_nil, List.length_map, List.length_range, List.getElem?_cons_zero, List.getElem?_cons_succ, List.getElem?_map, List.replicate_succ, List.replicate_zero, List.cons_append, List.nil_append, if_true, if_false, ite_true, ite_false, Bool.and_true, Bool.true_and, Bool.and_self, and_true, true_and, and_self, decide_true, decide_false, Bool.not_true, Bool.not_false, eq_self, Int.toNat_natCast, Int.toNat_zero, Nat.reduceAdd, Nat.reduceSub, Nat.reduceLeDiff, Nat.reduceMul, Nat.reduceEqDiff, Int.reduceToNat, Nat.zero_add, Nat.reduceLT, Int.reduceLT, Int.reduceLE, Int.reduceEq, Int.reduceNe, Int.reduceMul, Int.reduceAdd, Int.reducePow, Bool.false_eq_true, reduceCtorEq, not_true_eq_false, not_false_eq_true, ne_eq, Option.getD_some, if_pos, List.length_append, List.length_replicate, msI, maI, msT, maT, msP, maR, e1]
    try rfl
end

section
variable {v : Int} {N : List (List Nat)}
theorem test2 (hl : N.length ≤ 20) (hN : ∀ w ∈ N, w.length ≤ 100) {s2 : DSlot} {x2 : Ex} {it : Ax} (hx : x2 [.slf (.ins "Space" [] []), .val (.int v), s2, .no] = some (.lst (N.map txD))) (hit : it [.slf (.ins "Space" [] []), .val (.int v), s2, .no] = some (N.map txD)) :
    (orT (notT (tes (cal (f1 allL) (aC (lcE it (.n 3) yes (cal F_is_name (aC (var 3) aN)) [3]) aN)))) (cmp ltD (op1 lenSet x2) (cal (f1 lenD) (aC x2 aN)))) [.slf (.ins "Space" [] []), .val (.int v), s2, .no] = some (!(N.all nmB && decide (¬ (dst (N.map sS)).length < N.length))) := by
  have q2 := lens_t N
  have q3 := lenSet_t (N := N) (by omega)
  have q4 := names_run hN (e0 := [.slf (.ins "Space" [] []), .val (.int v), s2, .no]) (i := 3) (by simp) (F := F_is_name) fun w hw => is_name_eq (hN w hw)
  have q5 := all_bl (N.map nmB)
  have q6 : ((N.map nmB).all id) = N.all nmB := by rw [List.all_map]; rfl
  rw [q6] at q5
  have hz : (N.map txD).length ≤ szL := by unfold szL; simp; omega
  generalize (N.map nmB).map D.bl = BB at q4 q5
  generalize hNN : N.map txD = NN at q2 q3 q4 hz hx hit
  cases ha : N.all nmB with
  | false =>
    rw [ha] at q5
    simp_arith [hit, hz, q4, q5]
    try rfl
  | true =>
    rw [ha] at q5
    by_cases hd : (dst (N.map sS)).length < N.length
    · have hd' : (((dst (N.map sS)).length : Int) < (N.length : Int)) ↔ True := iff_true_intro (by omega)
      rw [decide_eq_false (p := ¬ (dst (N.map sS)).length < N.length) (fun z => z hd)]
      simp -implicitDefEqProofs (disch := first | omega | (simp only [List.length_map, List.length_cons, List.length_nil, List.length_append, List.length_range, List.length_replicate]; omega)) only [sq_e, sqK_nx, sqK_ret, sqK_bk, sqK_ct, skip_e, setE_e, newE_e, rt_e, brk_e, cnt_e, ifS_e, ifK_t, ifK_f, ifX_t, ifX_f, ifT_t, ifT_f, fncK_ret, fncK_nx, ctK_nx, ctK_ct, ctK_ret, lcK_e, lstK_e, tupK_e, tupK_f, tupK_cat, ftupD_lst, ftupE_e, lenD_f, getD_f, addD_ff, blK_e, ovK_e, vaK_e, ife_e, var_e, ovar_e, cst_e, op1_e, op2_e, op3_e, aN_e, aC_e, tupE_e, lstE_e, cal_e, f1_e, cmp_e, flip_e, neg_e, chn_e, boo_e, tes_e, ff_e, tt_e, andT_e, orT_e, notT_e, fX_e, tX_e, andV_e, orV_e, notV_e, isN_e, yes_e, asg_e, gD_n, gD_t, gDs_n, gDs_c, frz_e, mov_e, movO_e, forE_e, iLst_e, iTp_e, iRng_e, one1_c, two2_c, iZp_e, lcE_e, lc2E_e, wip_n, wip_c, noOwn_n, noOwn_c, noO_no, noO_val, fnc_e, ini_e, met_e, fld_e, slE_e, prK_e, prt_e, prN_e, dic1_e, appK_e, app_e, extK_e, ext_e, stK_e, drpA_e, drpK_e, addD_int, addD_tup, addD_lst, subD_int, mulD_l, mulD_r, modD_int, divD_int, intD_int, intD_bl, ltD_int, leD_int, eqD_int, eqD_bl, lenD_tup, lenD_scr, tupD_lst, listD_lst, listD_tup, revL_lst, isBool_bl, max2_int, isBD_bl, revT_tup, iEnum_e, iItm_e, iSq_e, isC_i, isLst_l, addI_int, subI_int, iZm_e, seqK_t, seqK_l, dcE_e, getD_l, getD_t, getD_s, rngL_n, rngL_i, rngL_2, sumL_ints, sumT_tup, sumT_lst, allL_bls, anyL_bls, lcT_t, lcT_f, set_0, set_s, szL_le, szL_lt, Option.bind_some, Option.map_some, List.map_cons, List.map_nil, List.length_cons, List.length_nil, List.length_map, List.length_range, List.getElem?_cons_zero, List.getElem?_cons_succ, List.getElem?_map, List.replicate_succ, List.replicate_zero, List.cons_append, List.nil_append, if_true, if_false, ite_true, ite_false, Bool.and_true, Bool.true_and, Bool.and_self, and_true, true_and, and_self, decide_true, decide_false, Bool.not_true, Bool.not_false, eq_self, Int.toNat_natCast, Int.toNat_zero, Nat.reduceAdd, Nat.reduceSub, Nat.reduceLeDiff, Nat.reduceMul, Nat.reduceEqDiff, Int.reduceToNat, Nat.zero_add, Nat.reduceLT, Int.reduceLT, Int.reduceLE, Int.reduceEq, Int.reduceNe, Int.reduceMul, Int.reduceAdd, Int.reducePow, Bool.false_eq_true, reduceCtorEq, not_true_eq_false, not_false_eq_true, ne_eq, Option.getD_some, if_pos, List.length_append, List.length_replicate, msI, maI, msT, maT, msP, maR, hit, hz, q4, q5, hx, q2, q3, hd']
      try rfl
    · have hd' : (((dst (N.map sS)).length : Int) < (N.length : Int)) ↔ False := iff_false_intro (by omega)
      rw [decide_eq_true (p := ¬ (dst (N.map sS)).length < N.length) hd]
      simp -implicitDefEqProofs (disch := first | omega | (simp only [List.length_map, List.length_cons, List.length_nil, List.length_append, List.length_range, List.length_replicate]; omega)) only [sq_e, sqK_nx, sqK_ret, sqK_bk, sqK_ct, skip_e, setE_e, newE_e, rt_e, brk_e, cnt_e, ifS_e, ifK_t, ifK_f, ifX_t, ifX_f, ifT_t, ifT_f, fncK_ret, fncK_nx, ctK_nx, ctK_ct, ctK_ret, lcK_e, lstK_e, tupK_e, tupK_f, tupK_cat, ftupD_lst, ftupE_e, lenD_f, getD_f, addD_ff, blK_e, ovK_e, vaK_e, ife_e, var_e, ovar_e, cst_e, op1_e, op2_e, op3_e, aN_e, aC_e, tupE_e, lstE_e, cal_e, f1_e, cmp_e, flip_e, neg_e, chn_e, boo_e, tes_e, ff_e, tt_e, andT_e, orT_e, notT_e, fX_e, tX_e, andV_e, orV_e, notV_e, isN_e, yes_e, asg_e, gD_n, gD_t, gDs_n, gDs_c, frz_e, mov_e, movO_e, forE_e, iLst_e, iTp_e, iRng_e, one1_c, two2_c, iZp_e, lcE_e, lc2E_e, wip_n, wip_c, noOwn_n, noOwn_c, noO_no, noO_val, fnc_e, ini_e, met_e, fld_e, slE_e, prK_e, prt_e, prN_e, dic1_e, appK_e, app_e, extK_e, ext_e, stK_e, drpA_e, drpK_e, addD_int, addD_tup, addD_lst, subD_int, mulD_l, mulD_r, modD_int, divD_int, intD_int, intD_bl, ltD_int, leD_int, eqD_int, eqD_bl, lenD_tup, lenD_scr, tupD_lst, listD_lst, listD_tup, revL_lst, isBool_bl, max2_int, isBD_bl, revT_tup, iEnum_e, iItm_e, iSq_e, isC_i, isLst_l, addI_int, subI_int, iZm_e, seqK_t, seqK_l, dcE_e, getD_l, getD_t, getD_s, rngL_n, rngL_i, rngL_2, sumL_ints, sumT_tup, sumT_lst, allL_bls, anyL_bls, lcT_t, lcT_f, set_0, set_s, szL_le, szL_lt, Option.bind_some, Option.map_some, List.map_cons, List.map_nil, List.length_cons, List.length_nil, List.length_map, List.length_range, List.getElem?_cons_zero, List.getElem?_cons_succ, List.getElem?_map, List.replicate_succ, List.replicate_zero, List.cons_append, List.nil_append, if_true, if_false, ite_true, ite_false, Bool.and_true, Bool.true_and, Bool.and_self, and_true, true_and, and_self, decide_true, decide_false, Bool.not_true, Bool.not_false, eq_self, Int.toNat_natCast, Int.toNat_zero, Nat.reduceAdd, Nat.reduceSub, Nat.reduceLeDiff, Nat.reduceMul, Nat.reduceEqDiff, Int.reduceToNat, Nat.zero_add, Nat.reduceLT, Int.reduceLT, Int.reduceLE, Int.reduceEq, Int.reduceNe, Int.reduceMul, Int.reduceAdd, Int.reducePow, Bool.false_eq_true, reduceCtorEq, not_true_eq_false, not_false_eq_true, ne_eq, Option.getD_some, if_pos, List.length_append, List.length_replicate, msI, maI, msT, maT, msP, maR, hit, hz, q4, q5, hx, q2, q3, hd']
      try rfl
theorem test3 {s2 : DSlot} {x2 : Ex} (hv : v = 2 ∨ v = 3 ∨ v = 5 ∨ v = 7) (hx : x2 [.slf (.ins "Space" [] []), .val (.int v), s2, .no] = some (.lst (N.map txD))) :
    (cmp (flip ltD) (cal (f1 lenD) (aC x2 aN)) (op1 (tabI [(2, 8), (3, 5), (5, 3), (7, 2)]) (var 1))) [.slf (.ins "Space" [] []), .val (.int v), s2, .no] = some (!decide (N.length ≤ tbl v)) := by
  have q2 := lens_t N
  have q7 : tabI [(2, 8), (3, 5), (5, 3), (7, 2)] (.int v) = some (nD (tbl v)) := by rcases hv with rfl | rfl | rfl | rfl <;> rfl
  generalize N.map txD = NN at q2 hx
  by_cases ht : N.length ≤ tbl v
  · have ht' : ((tbl v : Int) < (N.length : Int)) ↔ False := iff_false_intro (by omega)
    rw [decide_eq_true ht]
    simp -implicitDefEqProofs (disch := first | omega | (simp only [List.length_map, List.length_cons, List.length_nil, List.length_append, List.length_range, List.length_replicate]; omega)) only [sq_e, sqK_nx, sqK_ret, sqK_bk, sqK_ct, skip_e, setE_e, newE_e, rt_e, brk_e, cnt_e, ifS_e, ifK_t, ifK_f, ifX_t, ifX_f, ifT_t, ifT_f, fncK_ret, fncK_nx, ctK_nx, ctK_ct, ctK_ret, lcK_e, lstK_e, tupK_e, tupK_f, tupK_cat, ftupD_lst, ftupE_e, lenD_f, getD_f, addD_ff, blK_e, ovK_e, vaK_e, ife_e, var_e, ovar_e, cst_e, op1_e, op2_e, op3_e, aN_e, aC_e, tupE_e, lstE_e, cal_e, f1_e, cmp_e, flip_e, neg_e, chn_e, boo_e, tes_e, ff_e, tt_e, andT_e, orT_e, notT_e, fX_e, tX_e, andV_e, orV_e, notV_e, isN_e, yes_e, asg_e, gD_n, gD_t, gDs_n, gDs_c, frz_e, mov_e, movO_e, forE_e, iLst_e, iTp_e, iRng_e, one1_c, two2_c, iZp_e, lcE_e, lc2E_e, wip_n, wip_c, noOwn_n, noOwn_c, noO_no, noO_val, fnc_e, ini_e, met_e, fld_e, slE_e, prK_e, prt_e, prN_e, dic1_e, appK_e, app_e, extK_e, ext_e, stK_e, drpA_e, drpK_e, addD_int, addD_tup, addD_lst, subD_int, mulD_l, mulD_r, modD_int, divD_int, intD_int, intD_bl, ltD_int, leD_int, eqD_int, eqD_bl, lenD_tup, lenD_scr, tupD_lst, listD_lst, listD_tup, revL_lst, isBool_bl, max2_int, isBD_bl, revT_tup, iEnum_e, iItm_e, iSq_e, isC_i, isLst_l, addI_int, subI_int, iZm_e, seqK_t, seqK_l, dcE_e, getD_l, getD_t, getD_s, rngL_n, rngL_i, rngL_2, sumL_ints, sumT_tup, sumT_lst, allL_bls, anyL_bls, lcT_t, lcT_f, set_0, set_s, szL_le, szL_lt, Option.bind_some, Option.map_some, List.map_cons, List.map_nil, List.length_cons, List.length_nil, List.length_map, List.length_range, List.getElem?_cons_zero, List.getElem?_cons_succ, List.getElem?_map, List.replicate_succ, List.replicate_zero, List.cons_append, List.nil_append, if_true, if_false, ite_true, ite_false, Bool.and_true, Bool.true_and, Bool.and_self, and_true, true_and, and_self, decide_true, decide_false, Bool.not_true, Bool.not_false, eq_self, Int.toNat_natCast, Int.toNat_zero, Nat.reduceAdd, Nat.reduceSub, Nat.reduceLeDiff, Nat.reduceMul, Nat.reduceEqDiff, Int.reduceToNat, Nat.zero_add, Nat.reduceLT, Int.reduceLT, Int.reduceLE, Int.reduceEq, Int.reduceNe, Int.reduceMul, Int.reduceAdd, Int.reducePow, Bool.false_eq_true, reduceCtorEq, not_true_eq_false, not_false_eq_true, ne_eq, Option.getD_some, if_pos, List.length_append, List.length_replicate, msI, maI, msT, maT, msP, maR, hx, q2, q7, ht']
    try rfl
  · have ht' : ((tbl v : Int) < (N.length : Int)) ↔ True := iff_true_intro (by omega)
    rw [decide_eq_false ht]
    simp -implicitDefEqProofs (disch := first | omega | (simp only [List.length_map, List.length_cons, List.length_nil, List.length_append, List.length_range, List.length_replicate]; omega)) only [sq_e, sqK_nx, sqK_ret, sqK_bk, sqK_ct, skip_e, setE_e, newE_e, rt_e, brk_e, cnt_e, ifS_e, ifK_t, ifK_f, ifX_t, ifX_f, ifT_t, ifT_f, fncK_ret, fncK_nx, ctK_nx, ctK_ct, ctK_ret, lcK_e, lstK_e, tupK_e, tupK_f, tupK_cat, ftupD_lst, ftupE_e, lenD_f, getD_f, addD_ff, blK_e, ovK_e, vaK_e, ife_e, var_e, ovar_e, cst_e, op1_e, op2_e, op3_e, aN_e, aC_e, tupE_e, lstE_e, cal_e, f1_e, cmp_e, flip_e, neg_e, chn_e, boo_e, tes_e, ff_e, tt_e, andT_e, orT_e, notT_e, fX_e, tX_e, andV_e, orV_e, notV_e, isN_e, yes_e, asg_e, gD_n, gD_t, gDs_n, gDs_c, frz_e, mov_e, movO_e, forE_e, iLst_e, iTp_e, iRng_e, one1_c, two2_c, iZp_e, lcE_e, lc2E_e, wip_n, wip_c, noOwn_n, noOwn_c, noO_no, noO_val, fnc_e, ini_e, met_e, fld_e, slE_e, prK_e, prt_e, prN_e, dic1_e, appK_e, app_e, extK_e, ext_e, stK_e, drpA_e, drpK_e, addD_int, addD_tup, addD_lst, subD_int, mulD_l, mulD_r, modD_int, divD_int, intD_int, intD_bl, ltD_int, leD_int, eqD_int, eqD_bl, lenD_tup, lenD_scr, tupD_lst, listD_lst, listD_tup, revL_lst, isBool_bl, max2_int, isBD_bl, revT_tup, iEnum_e, iItm_e, iSq_e, isC_i, isLst_l, addI_int, subI_int, iZm_e, seqK_t, seqK_l, dcE_e, getD_l, getD_t, getD_s, rngL_n, rngL_i, rngL_2, sumL_ints, sumT_tup, sumT_lst, allL_bls, anyL_bls, lcT_t, lcT_f, set_0, set_s, szL_le, szL_lt, Option.bind_some, Option.map_some, List.map_cons, List.map_nil, List.length_cons, List.length_nil, List.length_map, List.length_range, List.getElem?_cons_zero, List.getElem?_cons_succ, List.getElem?_map, List.replicate_succ, List.replicate_zero, List.cons_append, List.nil_append, if_true, if_false, ite_true, ite_false, Bool.and_true, Bool.true_and, Bool.and_self, and_true, true_and, and_self, decide_true, decide_false, Bool.not_true, Bool.not_false, eq_self, Int.toNat_natCast, Int.toNat_zero, Nat.reduceAdd, Nat.reduceSub, Nat.reduceLeDiff, Nat.reduceMul, Nat.reduceEqDiff, Int.reduceToNat, Nat.zero_add, Nat.reduceLT, Int.reduceLT, Int.reduceLE, Int.reduceEq, Int.reduceNe, Int.reduceMul, Int.reduceAdd, Int.reducePow, Bool.false_eq_true, reduceCtorEq, not_true_eq_false, not_false_eq_true, ne_eq, Option.getD_some, if_pos, List.length_append, List.length_replicate, msI, maI, msT, maT, msP, maR, hx, q2, q7, ht']
    try rfl
theorem G_eq (hl : N.length ≤ 20) (hN : ∀ w ∈ N, w.length ≤ 100) : G_Space___init__ [.int v, .lst (N.map txD)] = !spMk v N := by
  have t1 := tests hl hN (v := v) (s2 := .val (.lst (N.map txD))) (x2 := var 2) rfl
  have t2 := test2 hl hN (v := v) (s2 := .val (.lst (N.map txD))) (x2 := var 2) (it := iLst (var 2)) rfl rfl
  have t3 := fun hv => test3 (N := N) (v := v) (s2 := .val (.lst (N.map txD))) (x2 := var 2) hv rfl
  unfold G_Space___init__ spMk
  have hG : ∀ g : DEnv → Bool, iniG "Space" 3 4 g [.int v, .lst (N.map txD)] = g [.slf (.ins "Space" [] []), .val (.int v), .val (.lst (N.map txD)), .no] := fun g => by
    simp [iniG, List.replicate]
  rw [hG]
  cases h1 : (decide (v = 2 ∨ v = 3 ∨ v = 5 ∨ v = 7) && decide (1 ≤ N.length ∧ N.length ≤ 8)) with
  | false =>
    rw [h1] at t1
    rw [gsq_t t1, ← Bool.and_assoc, h1]
    rfl
  | true =>
    rw [h1] at t1
    rw [gsq_f t1, ← Bool.and_assoc, h1, Bool.true_and]
    rw [Bool.and_eq_true, decide_eq_true_iff] at h1
    cases h2 : (N.all nmB && decide (¬ (dst (N.map sS)).length < N.length)) with
    | false =>
      rw [h2] at t2
      rw [gsq_t t2, ← Bool.and_assoc, h2]
      rfl
    | true =>
      rw [h2] at t2
      rw [gsq_f t2, ← Bool.and_assoc, h2, Bool.true_and]
      have t3 := t3 h1.1
      cases h3 : decide (N.length ≤ tbl v) with
      | false =>
        rw [h3] at t3
        rw [gsq_t t3]
        rfl
      | true =>
        rw [h3] at t3
        rw [gsq_f t3]
        exact gsq_n (gsq_n (gsq_n fun _ => rfl)) _
end

def setFK (c f : Str) (d : D) (i : Nat) (e : DEnv) : Option DSlot → Option DRes
  | some (.slf (.ins c' fs xs)) => if c' = c ∧ fs.length < 1000 ∧ fs.length = xs.length then some (.nx (e.set i (.slf (.ins c' (putFD f d fs xs).1 (putFD f d fs xs).2)))) else none
  | _ => none
theorem setF_e {a : Ex} {e : DEnv} : setF i c f a e = (a e).bind fun d => setFK c f d i e e[i]? := by unfold setF; congr
theorem setFK_e : setFK c f d i e (some (.slf (.ins c fs xs))) = if c = c ∧ fs.length < 1000 ∧ fs.length = xs.length then some (.nx (e.set i (.slf (.ins c (putFD f d fs xs).1 (putFD f d fs xs).2)))) else none := rfl
theorem putF_n : putFD f d [] [] = ([f], [d]) := rfl
theorem putF_c (h : g ≠ f) : putFD f d (g :: gs) (x :: xs) = (g :: (putFD f d gs xs).1, x :: (putFD f d gs xs).2) := by
  rw [putFD]; exact if_neg h

theorem imm_iN {i : Int} : D.imm (.int i) = true := by simp [D.imm]
section
variable {v : Int} {N : List (List Nat)}
theorem plain_t {w : List Nat} (h : ∀ c ∈ w, c < 128) : (txD w).plain 59 = true := by
  show (w.toArray).all (· < 0x110000) = true
  rw [Array.all_eq_true]
  intro j hj
  have := h (w.toArray[j]) (by simp)
  exact decide_eq_true (by omega)
theorem plain_ts (hs : ∀ w ∈ N, ∀ c ∈ w, c < 128) : (D.lst (N.map txD)).plain 60 = true := by
  simp only [D.plain]
  exact plains_all fun d hd => by
    obtain ⟨w, hw, rfl⟩ := List.mem_map.mp hd
    exact plain_t (hs w hw)
theorem FO_eq (hl : N.length ≤ 20) (hN : ∀ w ∈ N, w.length ≤ 100) (hm : spMk v N = true) : F_O_Space___init__ [.int v, .lst (N.map txD)] = some (.tup [.ins "Space" ["prime", "names", "count"] [.int v, .lst (N.map txD), nD N.length], .lst (N.map txD)]) := by
  have t1 := tests hl hN (v := v) (s2 := .own (.lst (N.map txD))) (x2 := ovar 2) rfl
  have t2 := test2 hl hN (v := v) (s2 := .own (.lst (N.map txD))) (x2 := ovar 2) (it := iLst (ovar 2)) rfl rfl
  have t3 := fun hv => test3 (N := N) (v := v) (s2 := .own (.lst (N.map txD))) (x2 := ovar 2) hv rfl
  have hg : ∀ (t : Tx) (e : DEnv), t e = some false → gd t e = some e := fun t e h => by simp [gd, h]
  have n1 : ("prime" : Str) ≠ "names" := by decide
  have n2 : ("prime" : Str) ≠ "count" := by decide
  have n3 : ("names" : Str) ≠ "count" := by decide
  unfold spMk at hm
  simp only [Bool.and_eq_true, decide_eq_true_iff] at hm
  obtain ⟨m1, m2, m3, m4, m5⟩ := hm
  rw [decide_eq_true m1, decide_eq_true m2] at t1
  rw [m3, decide_eq_true m4] at t2
  have t3 := t3 m1
  rw [decide_eq_true m5] at t3
  have q2 := lens_t N
  unfold F_O_Space___init__ iniO
  simp only []
  generalize N.map txD = NN at t1 t2 t3 q2 ⊢
  have s1 := hg _ _ t1
  have s2 := hg _ _ t2
  have s3 := hg _ _ t3
  have e1 : nxO (setF 0 "Space" "prime" (var 1)) [.slf (.ins "Space" [] []), .val (.int v), .own (.lst NN), .no] = some [.slf (.ins "Space" ["prime"] [.int v]), .val (.int v), .own (.lst NN), .no] := by
    unfold nxO
    simp_arith [setF_e, setFK_e, putF_n]
    try rfl
  have e2 : nxO (setF 0 "Space" "names" (op1 listD (ovar 2))) [.slf (.ins "Space" ["prime"] [.int v]), .val (.int v), .own (.lst NN), .no] = some [.slf (.ins "Space" ["prime", "names"] [.int v, .lst NN]), .val (.int v), .own (.lst NN), .no] := by
    unfold nxO
    simp_arith [setF_e, setFK_e, putF_n, putF_c n1]
    try rfl
  have e3 : nxO (setF 0 "Space" "count" (imm (cal (f1 lenD) (aC (ovar 2) aN)))) [.slf (.ins "Space" ["prime", "names"] [.int v, .lst NN]), .val (.int v), .own (.lst NN), .no] = some [.slf (.ins "Space" ["prime", "names", "count"] [.int v, .lst NN, nD N.length]), .val (.int v), .own (.lst NN), .no] := by
    unfold nxO
    simp -implicitDefEqProofs (disch := first | omega | (simp only [List.length_map, List.length_cons, List.length_nil, List.length_append, List.length_range, List.length_replicate]; omega)) only [sq_e, sqK_nx, sqK_ret, sqK_bk, sqK_ct, skip_e, setE_e, newE_e, rt_e, brk_e, cnt_e, ifS_e, ifK_t, ifK_f, ifX_t, ifX_f, ifT_t, ifT_f, fncK_ret, fncK_nx, ctK_nx, ctK_ct, ctK_ret, lcK_e, lstK_e, tupK_e, tupK_f, tupK_cat, ftupD_lst, ftupE_e, lenD_f, getD_f, addD_ff, blK_e, ovK_e, vaK_e, ife_e, var_e, ovar_e, cst_e, op1_e, op2_e, op3_e, aN_e, aC_e, tupE_e, lstE_e, cal_e, f1_e, cmp_e, flip_e, neg_e, chn_e, boo_e, tes_e, ff_e, tt_e, andT_e, orT_e, notT_e, fX_e, tX_e, andV_e, orV_e, notV_e, isN_e, yes_e, asg_e, gD_n, gD_t, gDs_n, gDs_c, frz_e, mov_e, movO_e, forE_e, iLst_e, iTp_e, iRng_e, one1_c, two2_c, iZp_e, lcE_e, lc2E_e, wip_n, wip_c, noOwn_n, noOwn_c, noO_no, noO_val, fnc_e, ini_e, met_e, fld_e, slE_e, prK_e, prt_e, prN_e, dic1_e, appK_e, app_e, extK_e, ext_e, stK_e, drpA_e, drpK_e, addD_int, addD_tup, addD_lst, subD_int, mulD_l, mulD_r, modD_int, divD_int, intD_int, intD_bl, ltD_int, leD_int, eqD_int, eqD_bl, lenD_tup, lenD_scr, tupD_lst, listD_lst, listD_tup, revL_lst, isBool_bl, max2_int, isBD_bl, revT_tup, iEnum_e, iItm_e, iSq_e, isC_i, isLst_l, addI_int, subI_int, iZm_e, seqK_t, seqK_l, dcE_e, getD_l, getD_t, getD_s, rngL_n, rngL_i, rngL_2, sumL_ints, sumT_tup, sumT_lst, allL_bls, anyL_bls, lcT_t, lcT_f, set_0, set_s, szL_le, szL_lt, Option.bind_some, Option.map_some, List.map_cons, List.map_nil, List.length_cons, List.length_nil, List.length_map, List.length_range, List.getElem?_cons_zero, List.getElem?_cons_succ, List.getElem?_map, List.replicate_succ, List.replicate_zero, List.cons_append, List.nil_append, if_true, if_false, ite_true, ite_false, Bool.and_true, Bool.true_and, Bool.and_self, and_true, true_and, and_self, decide_true, decide_false, Bool.not_true, Bool.not_false, eq_self, Int.toNat_natCast, Int.toNat_zero, Nat.reduceAdd, Nat.reduceSub, Nat.reduceLeDiff, Nat.reduceMul, Nat.reduceEqDiff, Int.reduceToNat, Nat.zero_add, Nat.reduceLT, Int.reduceLT, Int.reduceLE, Int.reduceEq, Int.reduceNe, Int.reduceMul, Int.reduceAdd, Int.reducePow, Bool.false_eq_true, reduceCtorEq, not_true_eq_false, not_false_eq_true, ne_eq, Option.getD_some, if_pos, List.length_append, List.length_replicate, msI, maI, msT, maT, msP, maR, q2, imm_e, imm_iN, setF_e, setFK_e, putF_n, putF_c n2, putF_c n3]
    try rfl
  have hr : List.replicate (4 - 3) DSlot.no = [DSlot.no] := rfl
  rw [hr]
  simp only [sqF, s1, s2, s3, e1, e2, e3, Option.bind_some, List.getElem?_cons_zero, List.getElem?_cons_succ, if_true]
theorem told_eq (hl : N.length ≤ 20) (hN : ∀ w ∈ N, w.length ≤ 100) (hs : ∀ w ∈ N, ∀ c ∈ w, c < 128) : F__law_told [.int v, .lst (N.map txD)] = some (.bl (spMk v N)) := by
  have hG := G_eq hl hN (v := v)
  have hp := eqD_refl (plain_ts hs)
  have q2 := lens_t N
  have hz : (N.map txD).length < szL := by unfold szL; simp; omega
  have a1 : attr ["Space"] "prime" (.ins "Space" ["prime", "names", "count"] [.int v, .lst (N.map txD), nD N.length]) = some (.int v) := by
    simp only [attr]; rw [if_pos (by decide)]; rfl
  have a2 : attr ["Space"] "names" (.ins "Space" ["prime", "names", "count"] [.int v, .lst (N.map txD), nD N.length]) = some (.lst (N.map txD)) := by
    simp only [attr]; rw [if_pos (by decide)]; rfl
  have a3 : attr ["Space"] "count" (.ins "Space" ["prime", "names", "count"] [.int v, .lst (N.map txD), nD N.length]) = some (nD N.length) := by
    simp only [attr]; rw [if_pos (by decide)]; rfl
  have hF := fun hm => FO_eq hl hN (v := v) hm
  generalize hNN : N.map txD = NN at hG hp q2 hz a1 a2 a3 hF ⊢
  have hga : gAr G_Space___init__ (aC (var 0) (aC (ovar 2) aN)) [.val (.int v), .val (.lst NN), .own (.lst NN), .no, .no] = !spMk v N := by
    rw [← hG]; rfl
  cases hm : spMk v N with
  | false =>
    rw [hm] at hga
    have htr : (tryC 3 (gAr G_Space___init__ (aC (var 0) (aC (ovar 2) aN))) (setEe 4 (mkOE "Space" F_O_Space___init__ (var 0) 2))) [.val (.int v), .val (.lst NN), .own (.lst NN), .no, .no] = some (.ret (.bl false)) := by
      unfold tryC
      rw [hga]
      rfl
    unfold F__law_told
    simp_arith [htr]
  | true =>
    rw [hm] at hga
    have hF := hF hm
    have htr : (tryC 3 (gAr G_Space___init__ (aC (var 0) (aC (ovar 2) aN))) (setEe 4 (mkOE "Space" F_O_Space___init__ (var 0) 2))) [.val (.int v), .val (.lst NN), .own (.lst NN), .no, .no] = some (.nx [.val (.int v), .val (.lst NN), .own (.lst NN), .no, .val (.ins "Space" ["prime", "names", "count"] [.int v, .lst NN, nD N.length])]) := by
      unfold tryC
      rw [hga]
      show setEe 4 (mkOE "Space" F_O_Space___init__ (var 0) 2) _ = _
      unfold setEe mkOE
      show Option.map _ ((F_O_Space___init__ [.int v, .lst NN]).bind _) = _
      rw [hF]
      rfl
    unfold F__law_told
    simp -implicitDefEqProofs (disch := first | omega | (simp only [List.length_map, List.length_cons, List.length_nil, List.length_append, List.length_range, List.length_replicate]; omega)) only [sq_e, sqK_nx, sqK_ret, sqK_bk, sqK_ct, skip_e, setE_e, newE_e, rt_e, brk_e, cnt_e, ifS_e, ifK_t, ifK_f, ifX_t, ifX_f, ifT_t, ifT_f, fncK_ret, fncK_nx, ctK_nx, ctK_ct, ctK_ret, lcK_e, lstK_e, tupK_e, tupK_f, tupK_cat, ftupD_lst, ftupE_e, lenD_f, getD_f, addD_ff, blK_e, ovK_e, vaK_e, ife_e, var_e, ovar_e, cst_e, op1_e, op2_e, op3_e, aN_e, aC_e, tupE_e, lstE_e, cal_e, f1_e, cmp_e, flip_e, neg_e, chn_e, boo_e, tes_e, ff_e, tt_e, andT_e, orT_e, notT_e, fX_e, tX_e, andV_e, orV_e, notV_e, isN_e, yes_e, asg_e, gD_n, gD_t, gDs_n, gDs_c, frz_e, mov_e, movO_e, forE_e, iLst_e, iTp_e, iRng_e, one1_c, two2_c, iZp_e, lcE_e, lc2E_e, wip_n, wip_c, noOwn_n, noOwn_c, noO_no, noO_val, fnc_e, ini_e, met_e, fld_e, slE_e, prK_e, prt_e, prN_e, dic1_e, appK_e, app_e, extK_e, ext_e, stK_e, drpA_e, drpK_e, addD_int, addD_tup, addD_lst, subD_int, mulD_l, mulD_r, modD_int, divD_int, intD_int, intD_bl, ltD_int, leD_int, eqD_int, eqD_bl, lenD_tup, lenD_scr, tupD_lst, listD_lst, listD_tup, revL_lst, isBool_bl, max2_int, isBD_bl, revT_tup, iEnum_e, iItm_e, iSq_e, isC_i, isLst_l, addI_int, subI_int, iZm_e, seqK_t, seqK_l, dcE_e, getD_l, getD_t, getD_s, rngL_n, rngL_i, rngL_2, sumL_ints, sumT_tup, sumT_lst, allL_bls, anyL_bls, lcT_t, lcT_f, set_0, set_s, szL_le, szL_lt, Option.bind_some, Option.map_some, List.map_cons, List.map_nil, List.length_cons, List.length_nil, List.length_map, List.length_range, List.getElem?_cons_zero, List.getElem?_cons_succ, List.getElem?_map, List.replicate_succ, List.replicate_zero, List.cons_append, List.nil_append, if_true, if_false, ite_true, ite_false, Bool.and_true, Bool.true_and, Bool.and_self, and_true, true_and, and_self, decide_true, decide_false, Bool.not_true, Bool.not_false, eq_self, Int.toNat_natCast, Int.toNat_zero, Nat.reduceAdd, Nat.reduceSub, Nat.reduceLeDiff, Nat.reduceMul, Nat.reduceEqDiff, Int.reduceToNat, Nat.zero_add, Nat.reduceLT, Int.reduceLT, Int.reduceLE, Int.reduceEq, Int.reduceNe, Int.reduceMul, Int.reduceAdd, Int.reducePow, Bool.false_eq_true, reduceCtorEq, not_true_eq_false, not_false_eq_true, ne_eq, Option.getD_some, if_pos, List.length_append, List.length_replicate, msI, maI, msT, maT, msP, maR, htr, hz, a1, a2, hp, a3, q2]
end

theorem stL_at {i : Nat} {k a : Ex} {e : DEnv} {d : D} {xs : List D} {n : Nat} (h1 : a e = some d) (h2 : k e = some (.int (n : Int))) (h3 : e[i]? = some (.own (.lst xs))) (h4 : n < xs.length) : stL i k a e = some (.nx (e.set i (.own (.lst (xs.set n d))))) := by
  unfold stL
  rw [h1, Option.bind_some, h2, Option.bind_some, h3]
  show (ixN xs.length (n : Int)).bind _ = _
  unfold ixN
  rw [if_pos (by omega), if_pos (by omega)]
  rfl
def invOk (o : Option D) (p k : Int) : Bool := match o with
  | some (.int y) => decide (0 < y ∧ y < p ∧ k * y % p = 1)
  | _ => false
theorem inv_T : ∀ p ∈ ([2, 3, 5, 7] : List Nat), ∀ k < (7 : Nat), 1 ≤ k → k < p → invOk (F_inverse [nD p, nD k]) (p : Int) (k : Int) = true := by decide
theorem inv_eq {p k : Nat} (hp : p ∈ ([2, 3, 5, 7] : List Nat)) (h1 : 1 ≤ k) (h2 : k < p) : ∃ y : Int, F_inverse [nD p, nD k] = some (.int y) ∧ 0 < y ∧ y < (p : Int) ∧ (k : Int) * y % (p : Int) = 1 := by
  have h7 : p ≤ 7 := by
    simp only [List.mem_cons, List.not_mem_nil, or_false] at hp
    omega
  have := inv_T p hp k (by omega) h1 h2
  unfold invOk at this
  split at this
  · rename_i y hy
    exact ⟨y, hy, of_decide_eq_true this⟩
  · cases this
def menu9 : List (List Nat) := [[120], [121], [122], [120, 49], [98], [119, 111, 114, 100], [107, 57], [118, 101, 114, 121, 108, 111, 110, 103, 110, 97, 109, 101], [113]]
theorem inner_eq {N : List (List Nat)} (hN : N.length ≤ 20) (hNs : ∀ w ∈ N, w.length ≤ 14 ∧ ∀ c ∈ w, c < 128) (s0 s1 s2 : DSlot) (h2 : noO (some s2) = true) (s3 s4 s5 s6 s7 s8 s9 s10 s12 : DSlot) :
    ∃ s2', noO (some s2') = true ∧ forE (iLst (lstE (aC (op2 subD (cst (.int 0)) (cst (.int 1))) (aC (cst (.int 0)) (aC (cst (.int 1)) (aC (cst (.int 2)) (aC (cst (.int 3)) (aC (cst (.int 4)) (aC (cst (.int 5)) (aC (cst (.int 6)) (aC (cst (.int 7)) (aC (cst (.int 9)) (aC (cst (.int 11)) aN))))))))))))) (.n 2) (ifS (cmp (neg eqD) (cal F__law_told (aC (var 2) (aC (ovar 11) aN))) (cal F__law_makes (aC (var 2) (aC (ovar 11) aN)))) (rt (cst (.bl false))) skip) [s0, s1, s2, s3, s4, s5, s6, s7, s8, s9, s10, .own (.lst (N.map txD)), s12] = some (.nx [s0, s1, s2', s3, s4, s5, s6, s7, s8, s9, s10, .own (.lst (N.map txD)), s12]) := by
  have hL : ∀ e, iLst (lstE (aC (op2 subD (cst (.int 0)) (cst (.int 1))) (aC (cst (.int 0)) (aC (cst (.int 1)) (aC (cst (.int 2)) (aC (cst (.int 3)) (aC (cst (.int 4)) (aC (cst (.int 5)) (aC (cst (.int 6)) (aC (cst (.int 7)) (aC (cst (.int 9)) (aC (cst (.int 11)) aN)))))))))))) e = some (([-1, 0, 1, 2, 3, 4, 5, 6, 7, 9, 11] : List Int).map D.int) := fun e => rfl
  rw [forE_e, hL, Option.bind_some]
  generalize hlp : loop _ _ _ _ = o
  obtain ⟨e, rfl, s2', h2', rfl⟩ := loop_p hlp (fun l env => ∃ s2', noO (some s2') = true ∧ env = [s0, s1, s2', s3, s4, s5, s6, s7, s8, s9, s10, .own (.lst (N.map txD)), s12])
    ⟨s2, h2, rfl⟩ (by
      rintro l v e _ _ ⟨s2, _, rfl⟩
      have t1 := told_eq (v := v) hN (fun w hw => by have := (hNs w hw).1; omega) (fun w hw => (hNs w hw).2)
      have t2 := lmakes_eq (v := v) hN (fun w hw => by have := (hNs w hw).1; omega)
      generalize spMk v N = b at t1 t2
      cases b
      · refine stp (by simp_arith [t1, t2, neg_e]; rfl) ?_
        exact ⟨_, rfl, rfl⟩
      · refine stp (by simp_arith [t1, t2, neg_e]; rfl) ?_
        exact ⟨_, rfl, rfl⟩)
  exact ⟨s2', h2', rfl⟩
theorem F_law_true (ns : List Int) (hns : ns.length ≤ 63) : F_law [.scr ns] = some (.bl true) := by
  have c0 : F__law_cell [.scr ns, .int 0] = _ := cell_eq ns 0
  have c13 : F__law_cell [.scr ns, .int 13] = _ := cell_eq ns 13
  have c1 : ∀ k : Nat, F__law_cell [.scr ns, .int (1 + (k : Int))] = some (.int (ns.getD (1 + k) 0)) := fun k => by
    have := cell_eq ns (1 + k)
    rw [show ((1 + k : Nat) : Int) = 1 + (k : Int) from by push_cast; rfl] at this
    exact this
  obtain ⟨i, hi, hi4⟩ := emodN (ns.getD 0 0) (m := 4) (by omega)
  have hi : ns.getD 0 0 % 4 = (i : Int) := hi
  obtain ⟨p, hp, hpm⟩ : ∃ p : Nat, getD (.lst [.int 2, .int 3, .int 5, .int 7]) (nD i) = some (nD p) ∧ p ∈ ([2, 3, 5, 7] : List Nat) := by
    have : i = 0 ∨ i = 1 ∨ i = 2 ∨ i = 3 := by omega
    rcases this with rfl | rfl | rfl | rfl
    · exact ⟨2, rfl, by decide⟩
    · exact ⟨3, rfl, by decide⟩
    · exact ⟨5, rfl, by decide⟩
    · exact ⟨7, rfl, by decide⟩
  have hp7 : 2 ≤ p ∧ p ≤ 7 := by
    simp only [List.mem_cons, List.not_mem_nil, or_false] at hpm
    omega
  have r1 : rngL [.int 1, nD p] = some ((List.range (p - 1)).map fun (k : Nat) => D.int (1 + (k : Int))) := by
    have e : ((p : Int) - 1).toNat = p - 1 := by omega
    simp only [rngL, e]
    rw [if_pos (decide_eq_true (by omega))]
  have r12 : rngL [.int 12] = some ((List.range 12).map fun (k : Nat) => D.int (k : Int)) := rngL_n (n := 12) (by omega)
  have r6 : rngL [.int 6] = some ((List.range 6).map fun (k : Nat) => D.int (k : Int)) := rngL_n (n := 6) (by omega)
  obtain ⟨W, hW⟩ := Classical.axiomOfChoice fun k : Nat => lword_eq (ns.getD (1 + k) 0 + (k : Int))
  have e1 : ∀ s2 s8, lcRun (gD (.n 7)) yes (cal F__law_word (aC (op2 addD (cal F__law_cell (aC (var 0) (aC (op2 addD (cst (.int 1)) (var 7)) aN))) (var 7)) aN)) [.val (.scr ns), .val (nD p), s2, .no, .no, .no, .no, .no, s8, .no, .no, .no, .no] ((List.range 12).map fun (k : Nat) => D.int (k : Int)) = some (((List.range 12).map W).map txD) := fun s2 s8 =>
    lcRun_m (enc' := txD) W fun k hk => by
      have w1 := (hW k).1
      simp_arith [c1, w1]
  have hWs : ∀ w ∈ (List.range 12).map W, w.length ≤ 14 ∧ ∀ c ∈ w, c < 128 := fun w hw => by
    obtain ⟨k, _, rfl⟩ := List.mem_map.mp hw
    exact (hW k).2
  have hWl : ((List.range 12).map W).length = 12 := by simp
  generalize (List.range 12).map W = WS at e1 hWs hWl
  obtain ⟨L, hd, hl, _⟩ := digits_eq (ns.getD 13 0) 420 14 (by omega) (by omega)
  have hd : F__law_digits [.int (ns.getD 13 0), .int 420, .int 14] = some (.lst (L.map .int)) := hd
  have gL : ∀ k : Nat, k < 14 → getD (.lst (L.map .int)) (.int (k : Int)) = some (.int (L.getD k 0)) := fun k hk => by
    rw [getD_l (by omega)]
    simp [List.getD, List.getElem?_eq_getElem (show k < L.length by omega)]
  have gL12 : getD (.lst (L.map .int)) (.int 12) = some (.int (L.getD 12 0)) := gL 12 (by omega)
  have gL13 : getD (.lst (L.map .int)) (.int 13) = some (.int (L.getD 13 0)) := gL 13 (by omega)
  have hM : lstE (aC (cst (.str "x")) (aC (cst (.str "y")) (aC (cst (.str "z")) (aC (cst (.str "x1")) (aC (cst (.str "b")) (aC (cst (.str "word")) (aC (cst (.str "k9")) (aC (cst (.str "verylongname")) (aC (cst (.str "q")) aN))))))))) = fun _ => some (.lst (menu9.map txD)) := rfl
  unfold F_law
  simp -implicitDefEqProofs (disch := first | omega | (simp only [List.length_map, List.length_cons, List.length_nil, List.length_append, List.length_range, List.length_replicate]; omega)) only [sq_e, sqK_nx, sqK_ret, sqK_bk, sqK_ct, skip_e, setE_e, newE_e, rt_e, brk_e, cnt_e, ifS_e, ifK_t, ifK_f, ifX_t, ifX_f, ifT_t, ifT_f, fncK_ret, fncK_nx, ctK_nx, ctK_ct, ctK_ret, lcK_e, lstK_e, tupK_e, tupK_f, tupK_cat, ftupD_lst, ftupE_e, lenD_f, getD_f, addD_ff, blK_e, ovK_e, vaK_e, ife_e, var_e, ovar_e, cst_e, op1_e, op2_e, op3_e, aN_e, aC_e, tupE_e, lstE_e, cal_e, f1_e, cmp_e, flip_e, neg_e, chn_e, boo_e, tes_e, ff_e, tt_e, andT_e, orT_e, notT_e, fX_e, tX_e, andV_e, orV_e, notV_e, isN_e, yes_e, asg_e, gD_n, gD_t, gDs_n, gDs_c, frz_e, mov_e, movO_e, forE_e, iLst_e, iTp_e, iRng_e, one1_c, two2_c, iZp_e, lcE_e, lc2E_e, wip_n, wip_c, noOwn_n, noOwn_c, noO_no, noO_val, fnc_e, ini_e, met_e, fld_e, slE_e, prK_e, prt_e, prN_e, dic1_e, appK_e, app_e, extK_e, ext_e, stK_e, drpA_e, drpK_e, addD_int, addD_tup, addD_lst, subD_int, mulD_l, mulD_r, modD_int, divD_int, intD_int, intD_bl, ltD_int, leD_int, eqD_int, eqD_bl, lenD_lst, lenD_tup, lenD_scr, tupD_lst, listD_lst, listD_tup, revL_lst, isBool_bl, max2_int, isBD_bl, revT_tup, iEnum_e, iItm_e, iSq_e, isC_i, isLst_l, addI_int, subI_int, iZm_e, seqK_t, seqK_l, dcE_e, getD_t, getD_s, sumL_ints, sumT_tup, sumT_lst, allL_bls, anyL_bls, lcT_t, lcT_f, set_0, set_s, szL_le, szL_lt, Option.bind_some, Option.map_some, List.map_cons, List.map_nil, List.length_cons, List.length_nil, List.length_map, List.length_range, List.getElem?_cons_zero, List.getElem?_cons_succ, List.getElem?_map, List.replicate_succ, List.replicate_zero, List.cons_append, List.nil_append, if_true, if_false, ite_true, ite_false, Bool.and_true, Bool.true_and, Bool.and_self, and_true, true_and, and_self, decide_true, decide_false, Bool.not_true, Bool.not_false, eq_self, Int.toNat_natCast, Int.toNat_zero, Nat.reduceAdd, Nat.reduceSub, Nat.reduceLeDiff, Nat.reduceMul, Nat.reduceEqDiff, Int.reduceToNat, Nat.zero_add, Nat.reduceLT, Int.reduceLT, Int.reduceLE, Int.reduceEq, Int.reduceNe, Int.reduceMul, Int.reduceAdd, Int.reducePow, Bool.false_eq_true, reduceCtorEq, not_true_eq_false, not_false_eq_true, ne_eq, Option.getD_some, if_pos, List.length_append, List.length_replicate, msI, maI, msT, maT, msP, maR, c0, hi, hp, r1]
  generalize hlp : loop _ _ _ _ = o
  obtain ⟨e, rfl, s2, s8, h2, rfl⟩ := loop_p hlp (fun l env => ∃ s2 s8, noO (some s2) = true ∧ env = [.val (.scr ns), .val (nD p), s2, .no, .no, .no, .no, .no, s8, .no, .no, .no, .no])
    ⟨_, _, rfl, rfl⟩ (by
      rintro l k e hk _ ⟨s2, s8, _, rfl⟩
      have hk2 : k < p - 1 := List.mem_range.mp hk
      obtain ⟨y, y1, y2, y3, y4⟩ := inv_eq (k := 1 + k) hpm (by omega) (by omega)
      have y1 : F_inverse [nD p, .int (1 + (k : Int))] = some (.int y) := by
        rw [show (1 + (k : Int)) = ((1 + k : Nat) : Int) from by push_cast; rfl]; exact y1
      have y4 : (1 + (k : Int)) * y % (p : Int) = 1 := by
        rw [show (1 + (k : Int)) = ((1 + k : Nat) : Int) from by push_cast; rfl]; exact y4
      have hI : isIntD (.int y) = some (.bl true) := rfl
      have y2' : 0 < y ↔ True := iff_true_intro y2
      have y3' : y < (p : Int) ↔ True := iff_true_intro y3
      refine stp (by simp_arith [y1, hI, y2', y3', y4, neg_e]; rfl) ?_
      exact ⟨_, _, rfl, rfl⟩)
  simp -implicitDefEqProofs (disch := first | omega | (simp only [List.length_map, List.length_cons, List.length_nil, List.length_append, List.length_range, List.length_replicate]; omega)) only [sq_e, sqK_nx, sqK_ret, sqK_bk, sqK_ct, skip_e, setE_e, newE_e, rt_e, brk_e, cnt_e, ifS_e, ifK_t, ifK_f, ifX_t, ifX_f, ifT_t, ifT_f, fncK_ret, fncK_nx, ctK_nx, ctK_ct, ctK_ret, lcK_e, lstK_e, tupK_e, tupK_f, tupK_cat, ftupD_lst, ftupE_e, lenD_f, getD_f, addD_ff, blK_e, ovK_e, vaK_e, ife_e, var_e, ovar_e, cst_e, op1_e, op2_e, op3_e, aN_e, aC_e, tupE_e, lstE_e, cal_e, f1_e, cmp_e, flip_e, neg_e, chn_e, boo_e, tes_e, ff_e, tt_e, andT_e, orT_e, notT_e, fX_e, tX_e, andV_e, orV_e, notV_e, isN_e, yes_e, asg_e, gD_n, gD_t, gDs_n, gDs_c, frz_e, mov_e, movO_e, forE_e, iLst_e, iTp_e, iRng_e, one1_c, two2_c, iZp_e, lcE_e, lc2E_e, wip_n, wip_c, noOwn_n, noOwn_c, noO_no, noO_val, fnc_e, ini_e, met_e, fld_e, slE_e, prK_e, prt_e, prN_e, dic1_e, appK_e, app_e, extK_e, ext_e, stK_e, drpA_e, drpK_e, addD_int, addD_tup, addD_lst, subD_int, mulD_l, mulD_r, modD_int, divD_int, intD_int, intD_bl, ltD_int, leD_int, eqD_int, eqD_bl, lenD_lst, lenD_tup, lenD_scr, tupD_lst, listD_lst, listD_tup, revL_lst, isBool_bl, max2_int, isBD_bl, revT_tup, iEnum_e, iItm_e, iSq_e, isC_i, isLst_l, addI_int, subI_int, iZm_e, seqK_t, seqK_l, dcE_e, getD_l, getD_t, getD_s, rngL_2, sumL_ints, sumT_tup, sumT_lst, allL_bls, anyL_bls, lcT_t, lcT_f, set_0, set_s, szL_le, szL_lt, Option.bind_some, Option.map_some, List.map_cons, List.map_nil, List.length_cons, List.length_nil, List.length_map, List.length_range, List.getElem?_cons_zero, List.getElem?_cons_succ, List.getElem?_map, List.replicate_succ, List.replicate_zero, List.cons_append, List.nil_append, if_true, if_false, ite_true, ite_false, Bool.and_true, Bool.true_and, Bool.and_self, and_true, true_and, and_self, decide_true, decide_false, Bool.not_true, Bool.not_false, eq_self, Int.toNat_natCast, Int.toNat_zero, Nat.reduceAdd, Nat.reduceSub, Nat.reduceLeDiff, Nat.reduceMul, Nat.reduceEqDiff, Int.reduceToNat, Nat.zero_add, Nat.reduceLT, Int.reduceLT, Int.reduceLE, Int.reduceEq, Int.reduceNe, Int.reduceMul, Int.reduceAdd, Int.reducePow, Bool.false_eq_true, reduceCtorEq, not_true_eq_false, not_false_eq_true, ne_eq, Option.getD_some, if_pos, List.length_append, List.length_replicate, msI, maI, msT, maT, msP, maR, r12, e1]
  generalize hlp : loop _ _ _ _ = o
  obtain ⟨e, rfl, s4, s9, rfl⟩ := loop_p hlp (fun l env => ∃ s4 s9, env = [.val (.scr ns), .val (nD p), s2, .val (.lst (WS.map txD)), s4, .no, .no, .no, s8, s9, .no, .no, .no])
    ⟨_, _, rfl⟩ (by
      rintro l w e hw _ ⟨s4, s9, rfl⟩
      have n1 := is_name_eq (w := w) (by have := (hWs w hw).1; omega)
      have n2 := lis_name_eq (w := w) (by have := (hWs w hw).1; omega)
      generalize nmB w = b at n1 n2
      have hB : isBool (.bl b) = some (.bl true) := rfl
      cases b
      · refine stp (by simp_arith [n1, hB, neg_e, n2]; rfl) ?_
        exact ⟨_, _, rfl⟩
      · refine stp (by simp_arith [n1, hB, neg_e, n2]; rfl) ?_
        exact ⟨_, _, rfl⟩)
  simp -implicitDefEqProofs (disch := first | omega | (simp only [List.length_map, List.length_cons, List.length_nil, List.length_append, List.length_range, List.length_replicate]; omega)) only [sq_e, sqK_nx, sqK_ret, sqK_bk, sqK_ct, skip_e, setE_e, newE_e, rt_e, brk_e, cnt_e, ifS_e, ifK_t, ifK_f, ifX_t, ifX_f, ifT_t, ifT_f, fncK_ret, fncK_nx, ctK_nx, ctK_ct, ctK_ret, lcK_e, lstK_e, tupK_e, tupK_f, tupK_cat, ftupD_lst, ftupE_e, lenD_f, getD_f, addD_ff, blK_e, ovK_e, vaK_e, ife_e, var_e, ovar_e, cst_e, op1_e, op2_e, op3_e, aN_e, aC_e, tupE_e, lstE_e, cal_e, f1_e, cmp_e, flip_e, neg_e, chn_e, boo_e, tes_e, ff_e, tt_e, andT_e, orT_e, notT_e, fX_e, tX_e, andV_e, orV_e, notV_e, isN_e, yes_e, asg_e, gD_n, gD_t, gDs_n, gDs_c, frz_e, mov_e, movO_e, forE_e, iLst_e, iTp_e, iRng_e, one1_c, two2_c, iZp_e, lcE_e, lc2E_e, wip_n, wip_c, noOwn_n, noOwn_c, noO_no, noO_val, fnc_e, ini_e, met_e, fld_e, slE_e, prK_e, prt_e, prN_e, dic1_e, appK_e, app_e, extK_e, ext_e, stK_e, drpA_e, drpK_e, addD_int, addD_tup, addD_lst, subD_int, mulD_l, mulD_r, modD_int, divD_int, intD_int, intD_bl, ltD_int, leD_int, eqD_int, eqD_bl, lenD_lst, lenD_tup, lenD_scr, tupD_lst, listD_lst, listD_tup, revL_lst, isBool_bl, max2_int, isBD_bl, revT_tup, iEnum_e, iItm_e, iSq_e, isC_i, isLst_l, addI_int, subI_int, iZm_e, seqK_t, seqK_l, dcE_e, getD_t, getD_s, rngL_2, sumL_ints, sumT_tup, sumT_lst, allL_bls, anyL_bls, lcT_t, lcT_f, set_0, set_s, szL_le, szL_lt, Option.bind_some, Option.map_some, List.map_cons, List.map_nil, List.length_cons, List.length_nil, List.length_map, List.length_range, List.getElem?_cons_zero, List.getElem?_cons_succ, List.getElem?_map, List.replicate_succ, List.replicate_zero, List.cons_append, List.nil_append, if_true, if_false, ite_true, ite_false, Bool.and_true, Bool.true_and, Bool.and_self, and_true, true_and, and_self, decide_true, decide_false, Bool.not_true, Bool.not_false, eq_self, Int.toNat_natCast, Int.toNat_zero, Nat.reduceAdd, Nat.reduceSub, Nat.reduceLeDiff, Nat.reduceMul, Nat.reduceEqDiff, Int.reduceToNat, Nat.zero_add, Nat.reduceLT, Int.reduceLT, Int.reduceLE, Int.reduceEq, Int.reduceNe, Int.reduceMul, Int.reduceAdd, Int.reducePow, Bool.false_eq_true, reduceCtorEq, not_true_eq_false, not_false_eq_true, ne_eq, Option.getD_some, if_pos, List.length_append, List.length_replicate, msI, maI, msT, maT, msP, maR, c13, hd, hM, r6]
  generalize hlp : loop _ _ _ _ = o
  obtain ⟨e, rfl, s2, s7, s10, s11, s12, h2, h7, h12, rfl⟩ := loop_p hlp (fun l env => ∃ s2 s7 s10 s11 s12, noO (some s2) = true ∧ noO (some s7) = true ∧ noO (some s12) = true ∧ env = [.val (.scr ns), .val (nD p), s2, .val (.lst (WS.map txD)), s4, .val (.lst (L.map .int)), .val (.lst (menu9.map txD)), s7, s8, s9, s10, s11, s12])
    ⟨s2, .no, .no, .no, .no, h2, rfl, rfl, rfl⟩ (by
      rintro l k e hk _ ⟨s2, s7, s10, s11, s12, h2, h7, h12, rfl⟩
      have hk6 : k < 6 := List.mem_range.mp hk
      have gk := gL k (by omega)
      have g6 : getD (.lst (L.map .int)) (.int (6 + (k : Int))) = some (.int (L.getD (6 + k) 0)) := by
        have := gL (6 + k) (by omega)
        rw [show ((6 + k : Nat) : Int) = 6 + (k : Int) from by push_cast; rfl] at this
        exact this
      obtain ⟨a, ha, ha9⟩ := emodN (L.getD k 0) (m := 9) (by omega)
      have ha : L.getD k 0 % 9 = (a : Int) := ha
      obtain ⟨m, hm, hm10⟩ := emodN (L.getD (6 + k) 0) (m := 10) (by omega)
      have hm : L.getD (6 + k) 0 % 10 = (m : Int) := hm
      have rm : rngL [.int (m : Int)] = some ((List.range m).map fun (k : Nat) => D.int (k : Int)) := rngL_n (n := m) (by omega)
      have e2 : ∀ s2 s7 s11 s12, noO (some s2) = true → lcRun (gD (.n 12)) yes (op2 getD (var 6) (op2 modD (cal (f1 intD) (aC (op2 addD (var 10) (var 12)) aN)) (cst (.int 9)))) [.val (.scr ns), .val (nD p), s2, .val (.lst (WS.map txD)), s4, .val (.lst (L.map .int)), .val (.lst (menu9.map txD)), s7, s8, s9, .val (.int (a : Int)), s11, s12] ((List.range m).map fun (k : Nat) => D.int (k : Int)) = some (((List.range m).map fun j => menu9.getD ((a + j) % 9) []).map txD) := fun s2 s7 s11 s12 _ =>
        lcRun_m (enc' := txD) (fun j => menu9.getD ((a + j) % 9) []) fun j hj => by
          have q : ((a : Int) + (j : Int)) % 9 = (((a + j) % 9 : Nat) : Int) := by omega
          have g : getD (.lst (menu9.map txD)) (.int (((a + j) % 9 : Nat) : Int)) = some (txD (menu9.getD ((a + j) % 9) [])) := by
            have : (a + j) % 9 < 9 := Nat.mod_lt _ (by omega)
            generalize (a + j) % 9 = t at this
            have : t = 0 ∨ t = 1 ∨ t = 2 ∨ t = 3 ∨ t = 4 ∨ t = 5 ∨ t = 6 ∨ t = 7 ∨ t = 8 := by omega
            rcases this with rfl | rfl | rfl | rfl | rfl | rfl | rfl | rfl | rfl <;> rfl
          simp -implicitDefEqProofs (disch := first | omega | (simp only [List.length_map, List.length_cons, List.length_nil, List.length_append, List.length_range, List.length_replicate]; omega)) only [sq_e, sqK_nx, sqK_ret, sqK_bk, sqK_ct, skip_e, setE_e, newE_e, rt_e, brk_e, cnt_e, ifS_e, ifK_t, ifK_f, ifX_t, ifX_f, ifT_t, ifT_f, fncK_ret, fncK_nx, ctK_nx, ctK_ct, ctK_ret, lcK_e, lstK_e, tupK_e, tupK_f, tupK_cat, ftupD_lst, ftupE_e, lenD_f, getD_f, addD_ff, blK_e, ovK_e, vaK_e, ife_e, var_e, ovar_e, cst_e, op1_e, op2_e, op3_e, aN_e, aC_e, tupE_e, lstE_e, cal_e, f1_e, cmp_e, flip_e, neg_e, chn_e, boo_e, tes_e, ff_e, tt_e, andT_e, orT_e, notT_e, fX_e, tX_e, andV_e, orV_e, notV_e, isN_e, yes_e, asg_e, gD_n, gD_t, gDs_n, gDs_c, frz_e, mov_e, movO_e, forE_e, iLst_e, iTp_e, iRng_e, one1_c, two2_c, iZp_e, lcE_e, lc2E_e, wip_n, wip_c, noOwn_n, noOwn_c, noO_no, noO_val, fnc_e, ini_e, met_e, fld_e, slE_e, prK_e, prt_e, prN_e, dic1_e, appK_e, app_e, extK_e, ext_e, stK_e, drpA_e, drpK_e, addD_int, addD_tup, addD_lst, subD_int, mulD_l, mulD_r, modD_int, divD_int, intD_int, intD_bl, ltD_int, leD_int, eqD_int, eqD_bl, lenD_lst, lenD_tup, lenD_scr, tupD_lst, listD_lst, listD_tup, revL_lst, isBool_bl, max2_int, isBD_bl, revT_tup, iEnum_e, iItm_e, iSq_e, isC_i, isLst_l, addI_int, subI_int, iZm_e, seqK_t, seqK_l, dcE_e, getD_t, getD_s, rngL_n, rngL_i, rngL_2, sumL_ints, sumT_tup, sumT_lst, allL_bls, anyL_bls, lcT_t, lcT_f, set_0, set_s, szL_le, szL_lt, Option.bind_some, Option.map_some, List.map_cons, List.map_nil, List.length_cons, List.length_nil, List.length_map, List.length_range, List.getElem?_cons_zero, List.getElem?_cons_succ, List.getElem?_map, List.replicate_succ, List.replicate_zero, List.cons_append, List.nil_append, if_true, if_false, ite_true, ite_false, Bool.and_true, Bool.true_and, Bool.and_self, and_true, true_and, and_self, decide_true, decide_false, Bool.not_true, Bool.not_false, eq_self, Int.toNat_natCast, Int.toNat_zero, Nat.reduceAdd, Nat.reduceSub, Nat.reduceLeDiff, Nat.reduceMul, Nat.reduceEqDiff, Int.reduceToNat, Nat.zero_add, Nat.reduceLT, Int.reduceLT, Int.reduceLE, Int.reduceEq, Int.reduceNe, Int.reduceMul, Int.reduceAdd, Int.reducePow, Bool.false_eq_true, reduceCtorEq, not_true_eq_false, not_false_eq_true, ne_eq, Option.getD_some, if_pos, List.length_append, List.length_replicate, msI, maI, msT, maT, msP, maR, q, g]
      have hNs : ∀ w ∈ (List.range m).map (fun j => menu9.getD ((a + j) % 9) []), w.length ≤ 14 ∧ ∀ c ∈ w, c < 128 := fun w hw => by
        obtain ⟨j, _, rfl⟩ := List.mem_map.mp hw
        have : (a + j) % 9 < 9 := Nat.mod_lt _ (by omega)
        exact (by decide : ∀ t < 9, (menu9.getD t []).length ≤ 14 ∧ ∀ c ∈ menu9.getD t [], c < 128) _ this
      have hNl : ((List.range m).map (fun j => menu9.getD ((a + j) % 9) [])).length = m := by simp
      generalize (List.range m).map (fun j => menu9.getD ((a + j) % 9) []) = N at e2 hNs hNl
      have hkW : k < WS.length := by omega
      have gW : getD (.lst (WS.map txD)) (.int (k : Int)) = some (txD (WS.getD k [])) := by
        rw [getD_l (by simpa using hkW)]
        simp [List.getD, List.getElem?_eq_getElem hkW]
      have hwk : WS.getD k [] ∈ WS := by
        rw [List.getD_eq_getElem?_getD, List.getElem?_eq_getElem hkW]
        exact List.getElem_mem _
      obtain ⟨w3, hw3, hw3'⟩ := emodN (L.getD 12 0) (m := 3) (by omega)
      have hw3 : L.getD 12 0 % 3 = (w3 : Int) := hw3
      have e2' := e2 s2 (.val (.int (k : Int))) s11 .no h2
      have q12 : L.getD 12 0 % 3 = 1 ↔ w3 = 1 := by omega
      have qm : (0 : Int) < (m : Int) ↔ 0 < m := by omega
      by_cases hc1 : w3 = 1
      · by_cases hc2 : 0 < m
        · have q12' : L.getD 12 0 % 3 = 1 ↔ True := iff_true_intro (q12.mpr hc1)
          have qm' : (0 : Int) < (m : Int) ↔ True := iff_true_intro (qm.mpr hc2)
          obtain ⟨t, ht, htm⟩ := emodN (L.getD 13 0) (m := m) hc2
          have hN2l : (N.set t (WS.getD k [])).length ≤ 20 := by rw [List.length_set]; omega
          have hN2 : ∀ w ∈ N.set t (WS.getD k []), w.length ≤ 14 ∧ ∀ c ∈ w, c < 128 := fun w hw => by
            rcases List.mem_or_eq_of_mem_set hw with h | h
            · exact hNs w h
            · rw [h]; exact hWs _ hwk
          obtain ⟨s2', h2', hin⟩ := inner_eq hN2l hN2 (.val (.scr ns)) (.val (nD p)) s2 h2 (.val (.lst (WS.map txD))) s4 (.val (.lst (L.map .int))) (.val (.lst (menu9.map txD))) (.val (.int (k : Int))) s8 s9 (.val (.int (a : Int))) s12
          rw [List.map_set] at hin
          have mne : (m : Int) ≠ 0 := by omega
          have hst := @stL_at 11 (op2 modD (cal (f1 intD) (aC (op2 getD (var 5) (cst (.int 13))) aN)) (cal (f1 lenD) (aC (ovar 11) aN))) (op2 getD (var 3) (var 7)) [.val (.scr ns), .val (nD p), s2, .val (.lst (WS.map txD)), s4, .val (.lst (L.map .int)), .val (.lst (menu9.map txD)), .val (.int (k : Int)), s8, s9, .val (.int (a : Int)), .own (.lst (N.map txD)), s12] (txD (WS.getD k [])) (N.map txD) t (by simp -implicitDefEqProofs (disch := first | omega | (simp only [List.length_map, List.length_cons, List.length_nil, List.length_append, List.length_range, List.length_replicate]; omega)) only [sq_e, sqK_nx, sqK_ret, sqK_bk, sqK_ct, skip_e, setE_e, newE_e, rt_e, brk_e, cnt_e, ifS_e, ifK_t, ifK_f, ifX_t, ifX_f, ifT_t, ifT_f, fncK_ret, fncK_nx, ctK_nx, ctK_ct, ctK_ret, lcK_e, lstK_e, tupK_e, tupK_f, tupK_cat, ftupD_lst, ftupE_e, lenD_f, getD_f, addD_ff, blK_e, ovK_e, vaK_e, ife_e, var_e, ovar_e, cst_e, op1_e, op2_e, op3_e, aN_e, aC_e, tupE_e, lstE_e, cal_e, f1_e, cmp_e, flip_e, neg_e, chn_e, boo_e, tes_e, ff_e, tt_e, andT_e, orT_e, notT_e, fX_e, tX_e, andV_e, orV_e, notV_e, isN_e, yes_e, asg_e, gD_n, gD_t, gDs_n, gDs_c, frz_e, mov_e, movO_e, forE_e, iLst_e, iTp_e, iRng_e, one1_c, two2_c, iZp_e, lcE_e, lc2E_e, wip_n, wip_c, noOwn_n, noOwn_c, noO_no, noO_val, fnc_e, ini_e, met_e, fld_e, slE_e, prK_e, prt_e, prN_e, dic1_e, appK_e, app_e, extK_e, ext_e, stK_e, drpA_e, drpK_e, addD_int, addD_tup, addD_lst, subD_int, mulD_l, mulD_r, modD_int, divD_int, intD_int, intD_bl, ltD_int, leD_int, eqD_int, eqD_bl, lenD_lst, lenD_tup, lenD_scr, tupD_lst, listD_lst, listD_tup, revL_lst, isBool_bl, max2_int, isBD_bl, revT_tup, iEnum_e, iItm_e, iSq_e, isC_i, isLst_l, addI_int, subI_int, iZm_e, seqK_t, seqK_l, dcE_e, getD_t, getD_s, rngL_n, rngL_i, rngL_2, sumL_ints, sumT_tup, sumT_lst, allL_bls, anyL_bls, lcT_t, lcT_f, set_0, set_s, szL_le, szL_lt, Option.bind_some, Option.map_some, List.map_cons, List.map_nil, List.length_cons, List.length_nil, List.length_map, List.length_range, List.getElem?_cons_zero, List.getElem?_cons_succ, List.getElem?_map, List.replicate_succ, List.replicate_zero, List.cons_append, List.nil_append, if_true, if_false, ite_true, ite_false, Bool.and_true, Bool.true_and, Bool.and_self, and_true, true_and, and_self, decide_true, decide_false, Bool.not_true, Bool.not_false, eq_self, Int.toNat_natCast, Int.toNat_zero, Nat.reduceAdd, Nat.reduceSub, Nat.reduceLeDiff, Nat.reduceMul, Nat.reduceEqDiff, Int.reduceToNat, Nat.zero_add, Nat.reduceLT, Int.reduceLT, Int.reduceLE, Int.reduceEq, Int.reduceNe, Int.reduceMul, Int.reduceAdd, Int.reducePow, Bool.false_eq_true, reduceCtorEq, not_true_eq_false, not_false_eq_true, ne_eq, Option.getD_some, if_pos, List.length_append, List.length_replicate, msI, maI, msT, maT, msP, maR, gW]) (by simp -implicitDefEqProofs (disch := first | omega | (simp only [List.length_map, List.length_cons, List.length_nil, List.length_append, List.length_range, List.length_replicate]; omega)) only [sq_e, sqK_nx, sqK_ret, sqK_bk, sqK_ct, skip_e, setE_e, newE_e, rt_e, brk_e, cnt_e, ifS_e, ifK_t, ifK_f, ifX_t, ifX_f, ifT_t, ifT_f, fncK_ret, fncK_nx, ctK_nx, ctK_ct, ctK_ret, lcK_e, lstK_e, tupK_e, tupK_f, tupK_cat, ftupD_lst, ftupE_e, lenD_f, getD_f, addD_ff, blK_e, ovK_e, vaK_e, ife_e, var_e, ovar_e, cst_e, op1_e, op2_e, op3_e, aN_e, aC_e, tupE_e, lstE_e, cal_e, f1_e, cmp_e, flip_e, neg_e, chn_e, boo_e, tes_e, ff_e, tt_e, andT_e, orT_e, notT_e, fX_e, tX_e, andV_e, orV_e, notV_e, isN_e, yes_e, asg_e, gD_n, gD_t, gDs_n, gDs_c, frz_e, mov_e, movO_e, forE_e, iLst_e, iTp_e, iRng_e, one1_c, two2_c, iZp_e, lcE_e, lc2E_e, wip_n, wip_c, noOwn_n, noOwn_c, noO_no, noO_val, fnc_e, ini_e, met_e, fld_e, slE_e, prK_e, prt_e, prN_e, dic1_e, appK_e, app_e, extK_e, ext_e, stK_e, drpA_e, drpK_e, addD_int, addD_tup, addD_lst, subD_int, mulD_l, mulD_r, modD_int, divD_int, intD_int, intD_bl, ltD_int, leD_int, eqD_int, eqD_bl, lenD_lst, lenD_tup, lenD_scr, tupD_lst, listD_lst, listD_tup, revL_lst, isBool_bl, max2_int, isBD_bl, revT_tup, iEnum_e, iItm_e, iSq_e, isC_i, isLst_l, addI_int, subI_int, iZm_e, seqK_t, seqK_l, dcE_e, getD_t, getD_s, rngL_n, rngL_i, rngL_2, sumL_ints, sumT_tup, sumT_lst, allL_bls, anyL_bls, lcT_t, lcT_f, set_0, set_s, szL_le, szL_lt, Option.bind_some, Option.map_some, List.map_cons, List.map_nil, List.length_cons, List.length_nil, List.length_map, List.length_range, List.getElem?_cons_zero, List.getElem?_cons_succ, List.getElem?_map, List.replicate_succ, List.replicate_zero, List.cons_append, List.nil_append, if_true, if_false, ite_true, ite_false, Bool.and_true, Bool.true_and, Bool.and_self, and_true, true_and, and_self, decide_true, decide_false, Bool.not_true, Bool.not_false, eq_self, Int.toNat_natCast, Int.toNat_zero, Nat.reduceAdd, Nat.reduceSub, Nat.reduceLeDiff, Nat.reduceMul, Nat.reduceEqDiff, Int.reduceToNat, Nat.zero_add, Nat.reduceLT, Int.reduceLT, Int.reduceLE, Int.reduceEq, Int.reduceNe, Int.reduceMul, Int.reduceAdd, Int.reducePow, Bool.false_eq_true, reduceCtorEq, not_true_eq_false, not_false_eq_true, ne_eq, Option.getD_some, if_pos, List.length_append, List.length_replicate, msI, maI, msT, maT, msP, maR, gL13, hNl, ht, mne]) rfl (by rw [List.length_map]; omega)
          refine stp (by simp -implicitDefEqProofs (disch := first | omega | (simp only [List.length_map, List.length_cons, List.length_nil, List.length_append, List.length_range, List.length_replicate]; omega)) only [sq_e, sqK_nx, sqK_ret, sqK_bk, sqK_ct, skip_e, setE_e, newE_e, rt_e, brk_e, cnt_e, ifS_e, ifK_t, ifK_f, ifX_t, ifX_f, ifT_t, ifT_f, fncK_ret, fncK_nx, ctK_nx, ctK_ct, ctK_ret, lcK_e, lstK_e, tupK_e, tupK_f, tupK_cat, ftupD_lst, ftupE_e, lenD_f, getD_f, addD_ff, blK_e, ovK_e, vaK_e, ife_e, var_e, ovar_e, cst_e, op1_e, op2_e, op3_e, aN_e, aC_e, tupE_e, lstE_e, cal_e, f1_e, cmp_e, flip_e, neg_e, chn_e, boo_e, tes_e, ff_e, tt_e, andT_e, orT_e, notT_e, fX_e, tX_e, andV_e, orV_e, notV_e, isN_e, yes_e, asg_e, gD_n, gD_t, gDs_n, gDs_c, frz_e, mov_e, movO_e, iLst_e, iTp_e, iRng_e, one1_c, two2_c, iZp_e, lcE_e, lc2E_e, wip_n, wip_c, noOwn_n, noOwn_c, noO_no, noO_val, fnc_e, ini_e, met_e, fld_e, slE_e, prK_e, prt_e, prN_e, dic1_e, appK_e, app_e, extK_e, ext_e, stK_e, drpA_e, drpK_e, addD_int, addD_tup, addD_lst, subD_int, mulD_l, mulD_r, modD_int, divD_int, intD_int, intD_bl, ltD_int, leD_int, eqD_int, eqD_bl, lenD_lst, lenD_tup, lenD_scr, tupD_lst, listD_lst, listD_tup, revL_lst, isBool_bl, max2_int, isBD_bl, revT_tup, iEnum_e, iItm_e, iSq_e, isC_i, isLst_l, addI_int, subI_int, iZm_e, seqK_t, seqK_l, dcE_e, getD_t, getD_s, rngL_2, sumL_ints, sumT_tup, sumT_lst, allL_bls, anyL_bls, lcT_t, lcT_f, set_0, set_s, szL_le, szL_lt, Option.bind_some, Option.map_some, List.map_cons, List.map_nil, List.length_cons, List.length_nil, List.length_map, List.length_range, List.getElem?_cons_zero, List.getElem?_cons_succ, List.getElem?_map, List.replicate_succ, List.replicate_zero, List.cons_append, List.nil_append, if_true, if_false, ite_true, ite_false, Bool.and_true, Bool.true_and, Bool.and_self, and_true, true_and, and_self, decide_true, decide_false, Bool.not_true, Bool.not_false, eq_self, Int.toNat_natCast, Int.toNat_zero, Nat.reduceAdd, Nat.reduceSub, Nat.reduceLeDiff, Nat.reduceMul, Nat.reduceEqDiff, Int.reduceToNat, Nat.zero_add, Nat.reduceLT, Int.reduceLT, Int.reduceLE, Int.reduceEq, Int.reduceNe, Int.reduceMul, Int.reduceAdd, Int.reducePow, Bool.false_eq_true, reduceCtorEq, not_true_eq_false, not_false_eq_true, ne_eq, Option.getD_some, if_pos, List.length_append, List.length_replicate, msI, maI, msT, maT, msP, maR, gk, g6, ha, hm, rm, e2', gL12, gL13, q12', qm', hNl, ht, gW, hst, hin]; rfl) ?_
          exact ⟨_, _, _, _, _, h2', rfl, h12, rfl⟩
        · have q12' : L.getD 12 0 % 3 = 1 ↔ True := iff_true_intro (q12.mpr hc1)
          have qm' : (0 : Int) < (m : Int) ↔ False := iff_false_intro (fun h => hc2 (qm.mp h))
          obtain ⟨s2', h2', hin⟩ := inner_eq (by omega) hNs (.val (.scr ns)) (.val (nD p)) s2 h2 (.val (.lst (WS.map txD))) s4 (.val (.lst (L.map .int))) (.val (.lst (menu9.map txD))) (.val (.int (k : Int))) s8 s9 (.val (.int (a : Int))) s12
          refine stp (by simp -implicitDefEqProofs (disch := first | omega | (simp only [List.length_map, List.length_cons, List.length_nil, List.length_append, List.length_range, List.length_replicate]; omega)) only [sq_e, sqK_nx, sqK_ret, sqK_bk, sqK_ct, skip_e, setE_e, newE_e, rt_e, brk_e, cnt_e, ifS_e, ifK_t, ifK_f, ifX_t, ifX_f, ifT_t, ifT_f, fncK_ret, fncK_nx, ctK_nx, ctK_ct, ctK_ret, lcK_e, lstK_e, tupK_e, tupK_f, tupK_cat, ftupD_lst, ftupE_e, lenD_f, getD_f, addD_ff, blK_e, ovK_e, vaK_e, ife_e, var_e, ovar_e, cst_e, op1_e, op2_e, op3_e, aN_e, aC_e, tupE_e, lstE_e, cal_e, f1_e, cmp_e, flip_e, neg_e, chn_e, boo_e, tes_e, ff_e, tt_e, andT_e, orT_e, notT_e, fX_e, tX_e, andV_e, orV_e, notV_e, isN_e, yes_e, asg_e, gD_n, gD_t, gDs_n, gDs_c, frz_e, mov_e, movO_e, iLst_e, iTp_e, iRng_e, one1_c, two2_c, iZp_e, lcE_e, lc2E_e, wip_n, wip_c, noOwn_n, noOwn_c, noO_no, noO_val, fnc_e, ini_e, met_e, fld_e, slE_e, prK_e, prt_e, prN_e, dic1_e, appK_e, app_e, extK_e, ext_e, stK_e, drpA_e, drpK_e, addD_int, addD_tup, addD_lst, subD_int, mulD_l, mulD_r, modD_int, divD_int, intD_int, intD_bl, ltD_int, leD_int, eqD_int, eqD_bl, lenD_lst, lenD_tup, lenD_scr, tupD_lst, listD_lst, listD_tup, revL_lst, isBool_bl, max2_int, isBD_bl, revT_tup, iEnum_e, iItm_e, iSq_e, isC_i, isLst_l, addI_int, subI_int, iZm_e, seqK_t, seqK_l, dcE_e, getD_t, getD_s, rngL_2, sumL_ints, sumT_tup, sumT_lst, allL_bls, anyL_bls, lcT_t, lcT_f, set_0, set_s, szL_le, szL_lt, Option.bind_some, Option.map_some, List.map_cons, List.map_nil, List.length_cons, List.length_nil, List.length_map, List.length_range, List.getElem?_cons_zero, List.getElem?_cons_succ, List.getElem?_map, List.replicate_succ, List.replicate_zero, List.cons_append, List.nil_append, if_true, if_false, ite_true, ite_false, Bool.and_true, Bool.true_and, Bool.and_self, and_true, true_and, and_self, decide_true, decide_false, Bool.not_true, Bool.not_false, eq_self, Int.toNat_natCast, Int.toNat_zero, Nat.reduceAdd, Nat.reduceSub, Nat.reduceLeDiff, Nat.reduceMul, Nat.reduceEqDiff, Int.reduceToNat, Nat.zero_add, Nat.reduceLT, Int.reduceLT, Int.reduceLE, Int.reduceEq, Int.reduceNe, Int.reduceMul, Int.reduceAdd, Int.reducePow, Bool.false_eq_true, reduceCtorEq, not_true_eq_false, not_false_eq_true, ne_eq, Option.getD_some, if_pos, List.length_append, List.length_replicate, msI, maI, msT, maT, msP, maR, gk, g6, ha, hm, rm, e2', gL12, q12', qm', hNl, hin]; rfl) ?_
          exact ⟨_, _, _, _, _, h2', rfl, h12, rfl⟩
      · have q12' : L.getD 12 0 % 3 = 1 ↔ False := iff_false_intro (fun h => hc1 (q12.mp h))
        obtain ⟨s2', h2', hin⟩ := inner_eq (by omega) hNs (.val (.scr ns)) (.val (nD p)) s2 h2 (.val (.lst (WS.map txD))) s4 (.val (.lst (L.map .int))) (.val (.lst (menu9.map txD))) (.val (.int (k : Int))) s8 s9 (.val (.int (a : Int))) s12
        refine stp (by simp -implicitDefEqProofs (disch := first | omega | (simp only [List.length_map, List.length_cons, List.length_nil, List.length_append, List.length_range, List.length_replicate]; omega)) only [sq_e, sqK_nx, sqK_ret, sqK_bk, sqK_ct, skip_e, setE_e, newE_e, rt_e, brk_e, cnt_e, ifS_e, ifK_t, ifK_f, ifX_t, ifX_f, ifT_t, ifT_f, fncK_ret, fncK_nx, ctK_nx, ctK_ct, ctK_ret, lcK_e, lstK_e, tupK_e, tupK_f, tupK_cat, ftupD_lst, ftupE_e, lenD_f, getD_f, addD_ff, blK_e, ovK_e, vaK_e, ife_e, var_e, ovar_e, cst_e, op1_e, op2_e, op3_e, aN_e, aC_e, tupE_e, lstE_e, cal_e, f1_e, cmp_e, flip_e, neg_e, chn_e, boo_e, tes_e, ff_e, tt_e, andT_e, orT_e, notT_e, fX_e, tX_e, andV_e, orV_e, notV_e, isN_e, yes_e, asg_e, gD_n, gD_t, gDs_n, gDs_c, frz_e, mov_e, movO_e, iLst_e, iTp_e, iRng_e, one1_c, two2_c, iZp_e, lcE_e, lc2E_e, wip_n, wip_c, noOwn_n, noOwn_c, noO_no, noO_val, fnc_e, ini_e, met_e, fld_e, slE_e, prK_e, prt_e, prN_e, dic1_e, appK_e, app_e, extK_e, ext_e, stK_e, drpA_e, drpK_e, addD_int, addD_tup, addD_lst, subD_int, mulD_l, mulD_r, modD_int, divD_int, intD_int, intD_bl, ltD_int, leD_int, eqD_int, eqD_bl, lenD_lst, lenD_tup, lenD_scr, tupD_lst, listD_lst, listD_tup, revL_lst, isBool_bl, max2_int, isBD_bl, revT_tup, iEnum_e, iItm_e, iSq_e, isC_i, isLst_l, addI_int, subI_int, iZm_e, seqK_t, seqK_l, dcE_e, getD_t, getD_s, rngL_2, sumL_ints, sumT_tup, sumT_lst, allL_bls, anyL_bls, lcT_t, lcT_f, set_0, set_s, szL_le, szL_lt, Option.bind_some, Option.map_some, List.map_cons, List.map_nil, List.length_cons, List.length_nil, List.length_map, List.length_range, List.getElem?_cons_zero, List.getElem?_cons_succ, List.getElem?_map, List.replicate_succ, List.replicate_zero, List.cons_append, List.nil_append, if_true, if_false, ite_true, ite_false, Bool.and_true, Bool.true_and, Bool.and_self, and_true, true_and, and_self, decide_true, decide_false, Bool.not_true, Bool.not_false, eq_self, Int.toNat_natCast, Int.toNat_zero, Nat.reduceAdd, Nat.reduceSub, Nat.reduceLeDiff, Nat.reduceMul, Nat.reduceEqDiff, Int.reduceToNat, Nat.zero_add, Nat.reduceLT, Int.reduceLT, Int.reduceLE, Int.reduceEq, Int.reduceNe, Int.reduceMul, Int.reduceAdd, Int.reducePow, Bool.false_eq_true, reduceCtorEq, not_true_eq_false, not_false_eq_true, ne_eq, Option.getD_some, if_pos, List.length_append, List.length_replicate, msI, maI, msT, maT, msP, maR, gk, g6, ha, hm, rm, e2', gL12, q12', hin]; rfl) ?_
        exact ⟨_, _, _, _, _, h2', rfl, h12, rfl⟩)
  rfl

end PV

open PySem PySem.W PySem.Calls PyProof.Rows
theorem PySem.Challenge.cw_standingpowers_k01_numbers_names_and_spa_holds : PySem.Challenge.rw_standingpowers_k01_numbers_names_and_spa.Holds := by
  w_on; o_law
  refine HandSHeadRun.head_any (r := OpenLaw.row PySem.Challenge.rw_standingpowers_k01_numbers_names_and_spa) (q := view (OpenLaw.row PySem.Challenge.rw_standingpowers_k01_numbers_names_and_spa).prog [23]) (H := PV.hk) (ob := PV.ob) (M := 5000) (loose := PV.loose) (d := HandSHeadRun.topDef (OpenLaw.row PySem.Challenge.rw_standingpowers_k01_numbers_names_and_spa).prog 23) (kwd := []) PV.ob_eq
    (by kernel_rfl) (fun s => by kernel_rfl) PV.run (by kernel_rfl) (by kernel_rfl) (by kernel_rfl) (by rfl) (by first | assumption | decide +kernel) (by decide +kernel) ⟨rfl, rfl, rfl, rfl, rfl, by decide +kernel⟩ ?hw ?hc
  case hw => w_witness2
  case hc =>
    refine L2.walk_ofE (l := PySem.Challenge.rw_standingpowers_k01_numbers_names_and_spa) (n := 63) (k := 5) (x := "_law_script") (CX := L2.CX0) rfl (by decide) (by kernel_rfl) ⟨rfl, by decide, by decide⟩ ?F (fun _ _ _ _ z => z)
    intro w mg fa h Y G hmg0
    obtain ⟨K, KX, c⟩ := Y
    have hmg : mg ("law" : PySem.Str) = some (.ref fa) := by
      have e : (HandSHeadRun.topDef (OpenLaw.row PySem.Challenge.rw_standingpowers_k01_numbers_names_and_spa).prog 23).name = ("law" : PySem.Str) := by kernel_rfl
      rw [← e]
      exact hmg0
    have Z := PV.zf_of c KX G
    obtain ⟨fd, F, hF⟩ := PV.ok_law (P := (PySem.Challenge.rw_standingpowers_k01_numbers_names_and_spa).prog) (w := w) Z
    have e := hmg.symm.trans (Z.glo 32 (x := "law"))
    cases e
    have b := L2.FunD.bindsA (ps := ["_law_script"]) F fun _ _ _ _ _ _ us hl => match us, hl with | [_], _ => rfl
    exact ⟨K, fd, PV.spD mg PV.F_law, KX, fun s v => b s [v] rfl, fun H a ns hl _ hS => PV.law_says (Z.exf 4 (f := PV.noLst)) (PV.F_law_true ns hl) hS, fun base _ _ => hF base⟩


