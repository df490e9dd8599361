import PyProof.Rows.All
import Wide.All
import OpenK.AllK
import Wide.FinOn
import HandS.ForMost
import HandS.Zip
import HandS.TupAny
import HandS.TupMul
import HandS.TupLe
import HandS.DictComp
import HandS.DictTup
import HandS.Deep
import HandS.Conv
import HandS.SortKw
import HandS.Defaults
import HandS.Lambda
import HandS.Style
import HandS.IsInst
import HandS.Head0
import HandS.Head1
import HandS.Head2
import HandS.HeadEnd
import HandS.HeadHook1
import HandS.HeadHook2
import KE.KTupSum
import KE.KDictSum
import HandS.TupSets
import HandS.Strs
import KE.DataCmp
import KE.GoesEnum
import KE.KDictPairs
import KE.KDictKeyed
import KE.GoesZip
import KE.KDictZip
import HandS.EndTab
import HandS.HeadWalk
import KE.SortKeyHeap
import KE.DataMinKey
import KE.KNestM
import PySem.Challenge.RW_standingpowers_k12_texts_of_systems
import HandS.SetBool
import HandS.SetFor
import HandS.Remove
import KE.KUnpack
import KE.KItemsList
import HandS.TryOnly
import HandS.Replace
import PyProof.StrLawsChain
import PyProof.StrLawsTight
import PySem.Str
set_option autoImplicit true
set_option Elab.async false
set_option linter.all false
set_option maxRecDepth 100000
set_option maxHeartbeats 0
namespace PV
open PySem

inductive D where
  | non
  | bl (b : Bool)
  | int (i : Int)
  | str (s : Str)
  | tup (xs : List D)
  | lst (xs : List D)
  | dic (t : Bool) (ks vs : List D)
  | ins (c : Str) (fs : List Str) (xs : List D)
  | scr (ns : List Int)
  | ftup (xs : List D)

def szL : Nat := 16777216

mutual
def D.eqv : D → D → Bool
  | .non, .non => true
  | .bl a, .bl b => a == b
  | .bl a, .int j => (if a then 1 else 0) == j
  | .int i, .bl b => i == (if b then 1 else 0)
  | .int i, .int j => i == j
  | .str x, .str y => x == y
  | .tup xs, .tup ys => D.eqvs xs ys
  | .ftup xs, .ftup ys => D.eqvs xs ys
  | .ftup xs, .tup ys => D.eqvs xs ys
  | .tup xs, .ftup ys => D.eqvs xs ys
  | .lst xs, .lst ys => D.eqvs xs ys
  | _, _ => false
def D.eqvs : List D → List D → Bool
  | [], [] => true
  | x :: xs, y :: ys => D.eqv x y && D.eqvs xs ys
  | _, _ => false
end
mutual
def D.plain : Nat → D → Bool
  | _, .non => true
  | _, .bl _ => true
  | _, .int _ => true
  | _, .str x => x.cps.all (· < 0x110000)
  | n + 1, .tup xs => D.plains n xs
  | n + 1, .ftup xs => D.plains n xs
  | n + 1, .lst xs => D.plains n xs
  | _, _ => false
def D.plains : Nat → List D → Bool
  | _, [] => true
  | n, x :: xs => D.plain n x && D.plains n xs
end
mutual
def D.imm : D → Bool
  | .non => true
  | .bl _ => true
  | .int _ => true
  | .str _ => true
  | .tup xs => D.imms xs
  | .ftup xs => D.imms xs
  | _ => false
def D.imms : List D → Bool
  | [] => true
  | x :: xs => D.imm x && D.imms xs
end
inductive DSlot where
  | no
  | val (d : D)
  | own (d : D)
  | slf (d : D)
abbrev DEnv := List DSlot
inductive DRes where
  | nx (e : DEnv)
  | ret (d : D)
  | bk (e : DEnv)
  | ct (e : DEnv)
abbrev Ex := DEnv → Option D
abbrev Tx := DEnv → Option Bool
abbrev Sx := DEnv → Option DRes
abbrev Ax := DEnv → Option (List D)
abbrev Gx := D → DEnv → Option DEnv
abbrev Fn := List D → Option D

def var (i : Nat) : Ex := fun e => match e[i]? with
  | some (.val d) => some d
  | _ => none
def ovar (i : Nat) : Ex := fun e => match e[i]? with
  | some (.own d) => some d
  | _ => none
def cst (d : D) : Ex := fun _ => some d
def imm (a : Ex) : Ex := fun e => (a e).bind fun d => if d.imm then some d else none
def op1 (f : D → Option D) (a : Ex) : Ex := fun e => (a e).bind f
def op2 (f : D → D → Option D) (a b : Ex) : Ex := fun e => (a e).bind fun x => (b e).bind fun y => f x y
def aN : Ax := fun _ => some []
def aC (a : Ex) (r : Ax) : Ax := fun e => (a e).bind fun x => (r e).bind fun xs => some (x :: xs)
def tupE (a : Ax) : Ex := fun e => (a e).bind fun xs => if xs.length ≤ szL then some (.tup xs) else none
def lstE (a : Ax) : Ex := fun e => (a e).bind fun xs => if xs.length ≤ szL then some (.lst xs) else none
def cal (f : Fn) (a : Ax) : Ex := fun e => (a e).bind f
def ife (t : Tx) (a b : Ex) : Ex := fun e => (t e).bind fun c => if c then a e else b e

def addD : D → D → Option D
  | .int a, .int b => some (.int (a + b))
  | .str a, .str b => if a.length + b.length ≤ szL then some (.str (a ++ b)) else none
  | .tup a, .tup b => if a.length + b.length ≤ szL then some (.tup (a ++ b)) else none
  | .ftup a, .ftup b => if a.length + b.length ≤ szL then some (if a.isEmpty then .ftup b else if b.isEmpty then .ftup a else .tup (a ++ b)) else none
  | .ftup a, .tup b => if a.length + b.length ≤ szL then some (if !a.isEmpty && b.isEmpty then .ftup a else .tup (a ++ b)) else none
  | .tup a, .ftup b => if a.length + b.length ≤ szL then some (if a.isEmpty then .ftup b else .tup (a ++ b)) else none
  | .lst a, .lst b => if a.length + b.length ≤ szL then some (.lst (a ++ b)) else none
  | _, _ => none
def subD : D → D → Option D
  | .int a, .int b => some (.int (a - b))
  | _, _ => none
def b64 (a : Int) : Bool := decide (a.natAbs.log2 < 64)
def mulD : D → D → Option D
  | .int a, .int b => if b64 a || b64 b then some (.int (a * b)) else none
  | .tup a, .int b => if !a.isEmpty && decide (1 ≤ b) && decide (b ≤ 1000) && decide (a.length ≤ 1000) then some (.tup ((List.replicate b.toNat a).flatten)) else none
  | _, _ => none
def modD : D → D → Option D
  | .int a, .int b => if 0 < b then some (.int (a % b)) else none
  | _, _ => none
def divD : D → D → Option D
  | .int a, .int b => if decide (0 < b) && decide (b < 1073741824) then some (.int (a / b)) else none
  | _, _ => none
def powD : D → D → Option D
  | .int a, .int b => if decide (0 ≤ b) && decide (b ≤ 1000000) && decide (a.natAbs < 2 ^ 64) then some (.int (a ^ b.toNat)) else none
  | _, _ => none
def eqD (a b : D) : Option Bool := if a.plain 60 && b.plain 60 then some (D.eqv a b) else none
def ltD : D → D → Option Bool
  | .int a, .int b => some (decide (a < b))
  | _, _ => none
def leD : D → D → Option Bool
  | .int a, .int b => some (decide (a ≤ b))
  | _, _ => none
def cmp (f : D → D → Option Bool) (a b : Ex) : Tx := fun e => (a e).bind fun x => (b e).bind fun y => f x y
def flip (f : D → D → Option Bool) : D → D → Option Bool := fun a b => f b a
def chn (f g : D → D → Option Bool) (a b c : Ex) : Tx := fun e => (a e).bind fun x => (b e).bind fun y => (f x y).bind fun r => if r then (c e).bind fun z => g y z else some false
def boo (t : Tx) : Ex := fun e => (t e).map D.bl
def tes (a : Ex) : Tx := fun e => (a e).bind fun d => match d with
  | .bl b => some b
  | _ => none
def andT (a b : Tx) : Tx := fun e => (a e).bind fun c => if c then b e else some false
def orT (a b : Tx) : Tx := fun e => (a e).bind fun c => if c then some true else b e
def notT (a : Tx) : Tx := fun e => (a e).map not

def key1 : D → Bool
  | .int _ => true
  | .str _ => true
  | _ => false
def keyD : Bool → D → Bool
  | false, k => key1 k
  | true, .tup xs => xs.all key1
  | true, _ => false
def dget : List D → List D → D → Option D
  | k :: ks, v :: vs, x => if D.eqv k x then some v else dget ks vs x
  | _, _, _ => none
def ixN (n : Nat) (i : Int) : Option Nat := if 0 ≤ i then (if i < n then some i.toNat else none) else if -(n : Int) ≤ i then some (i + n).toNat else none
def getD : D → D → Option D
  | .lst xs, .int i => (ixN xs.length i).bind fun k => xs[k]?
  | .tup xs, .int i => (ixN xs.length i).bind fun k => xs[k]?
  | .ftup xs, .int i => (ixN xs.length i).bind fun k => xs[k]?
  | .scr ns, .int i => (ixN ns.length i).bind fun k => (ns[k]?).map D.int
  | .str s, .int i => if s.length ≤ szL then (ixN s.length i).bind fun k => (s.cps[k]?).map fun c => .str ⟨#[c]⟩ else none
  | _, _ => none
def getK : D → D → Option D
  | .dic t ks vs, k => if keyD t k then dget ks vs k else none
  | _, _ => none
def getK2 : D → D → D → Option D
  | .dic t ks vs, k, x => if keyD t k then some ((dget ks vs k).getD x) else none
  | _, _, _ => none
def dupd : List D → List D → D → D → List D
  | k :: ks, v :: vs, x, y => (if D.eqv k x then y else v) :: dupd ks vs x y
  | _, _, _, _ => []
def dput (ks vs : List D) (x y : D) : List D × List D := if (dget ks vs x).isSome then (ks, dupd ks vs x y) else (ks ++ [x], vs ++ [y])
def lenD : D → Option D
  | .scr ns => some (.int ns.length)
  | .lst xs => some (.int xs.length)
  | .tup xs => some (.int xs.length)
  | .ftup xs => some (.int xs.length)
  | .str s => if s.length ≤ szL then some (.int s.length) else none
  | _ => none
def intD : D → Option D
  | .int i => some (.int i)
  | .bl b => some (.int (if b then 1 else 0))
  | _ => none

def sq (a b : Sx) : Sx := fun e => (a e).bind fun r => match r with
  | .nx e' => b e'
  | r => some r
def skip : Sx := fun e => some (.nx e)
def setE (i : Nat) (a : Ex) : Sx := fun e => (a e).bind fun d => some (.nx (e.set i (.val d)))
def newE (i : Nat) (a : Ex) : Sx := fun e => (a e).bind fun d => some (.nx (e.set i (.own d)))
def rt (a : Ex) : Sx := fun e => (a e).bind fun d => some (.ret d)
def ifS (t : Tx) (a b : Sx) : Sx := fun e => (t e).bind fun c => if c then a e else b e
def brk : Sx := fun e => some (.bk e)
def cnt : Sx := fun e => some (.ct e)
inductive Tg where
  | n (i : Nat)
  | t (l : List Tg)
mutual
def gD : Tg → Gx
  | .n i => fun d e => some (e.set i (.val d))
  | .t l => fun d e => match d with
    | .tup xs => gDs l xs e
    | _ => none
def gDs : List Tg → List D → DEnv → Option DEnv
  | [] => fun ds e => match ds with
    | [] => some e
    | _ :: _ => none
  | g :: gs => fun ds e => match ds with
    | d :: ds => (gD g d e).bind fun e' => gDs gs ds e'
    | [] => none
end
mutual
def Tg.slots : Tg → List Nat
  | .n i => [i]
  | .t l => Tg.slotss l
def Tg.slotss : List Tg → List Nat
  | [] => []
  | g :: gs => g.slots ++ Tg.slotss gs
end
def asg (g : Tg) (a : Ex) : Sx := fun e => (a e).bind fun d => (gD g d e).bind fun e' => some (.nx e')
def frz (j : Nat) (b : Sx) : Sx := fun e => match e[j]? with
  | some (.own d) => b (e.set j (.val d))
  | _ => none
def mov (i j : Nat) : Sx := fun e => match e[j]? with
  | some (.own d) => some (.nx ((e.set j .no).set i (.val d)))
  | _ => none
def movO (i j : Nat) : Sx := fun e => match e[j]? with
  | some (.own d) => some (.nx ((e.set j .no).set i (.own d)))
  | _ => none
def loop (g : Gx) (b : Sx) : List D → DEnv → Option DRes
  | [], e => some (.nx e)
  | x :: xs, e => (g x e).bind fun e1 => (b e1).bind fun r => match r with
    | .nx e2 => loop g b xs e2
    | .ct e2 => loop g b xs e2
    | .bk e2 => some (.nx e2)
    | .ret d => some (.ret d)
def forE (it : Ax) (g : Tg) (b : Sx) : Sx := fun e => (it e).bind fun xs => loop (gD g) b xs e
def iLst (a : Ex) : Ax := fun e => (a e).bind fun d => match d with
  | .lst xs => some xs
  | _ => none
def iTp (a : Ex) : Ax := fun e => (a e).bind fun d => match d with
  | .tup xs => some xs
  | .ftup xs => some xs
  | _ => none
def rngL : List D → Option (List D)
  | [.int n] => if decide (-(2 ^ 62) ≤ n ∧ n < 2 ^ 62) then some ((List.range n.toNat).map fun (k : Nat) => .int (k : Int)) else none
  | [.int m, .int n] => if decide (-(2 ^ 62) ≤ m ∧ m < 2 ^ 62 ∧ -(2 ^ 62) ≤ n ∧ n < 2 ^ 62) then some ((List.range (n - m).toNat).map fun (k : Nat) => .int (m + (k : Int))) else none
  | _ => none
def one1 (a : Ax) : Ax := fun e => (a e).bind fun l => match l with
  | [x] => some [x]
  | _ => none
def two2 (a : Ax) : Ax := fun e => (a e).bind fun l => match l with
  | [x, y] => some [x, y]
  | _ => none
def iRng (a : Ax) : Ax := fun e => (a e).bind rngL
def wip (e : DEnv) : List Nat → DEnv
  | [] => e
  | v :: vs => (wip e vs).set v .no
def noOwn (e : DEnv) (ws : List Nat) : Bool := ws.all fun i => match (e[i]? : Option DSlot) with
  | some DSlot.no => true
  | some (DSlot.val _) => true
  | _ => false
def lcRun (g : Gx) (t : Tx) (a : Ex) (e0 : DEnv) : List D → Option (List D)
  | [] => some []
  | x :: xs => (g x e0).bind fun e1 => (t e1).bind fun c => if c then (a e1).bind fun y => (lcRun g t a e0 xs).bind fun ys => some (y :: ys) else lcRun g t a e0 xs
def lcE (it : Ax) (g : Tg) (t : Tx) (a : Ex) (ws : List Nat) : Ex := fun e => (it e).bind fun xs => if xs.length ≤ szL ∧ noOwn e ws = true then (lcRun (gD g) t a (wip e ws) xs).bind fun ys => some (.lst ys) else none
def yes : Tx := fun _ => some true
def fnc (m n : Nat) (b : Sx) : Fn := fun ds => if ds.length = m then (b (ds.map DSlot.val ++ List.replicate (n - m) DSlot.no)).bind fun r => match r with
  | .ret d => some d
  | .nx _ => some .non
  | _ => none
  else none
def ini (c : Str) (m n : Nat) (b : Sx) : Fn := fun ds => if ds.length + 1 = m then (b (DSlot.slf (.ins c [] []) :: (ds.map DSlot.val ++ List.replicate (n - m) DSlot.no))).bind fun r => match r with
  | .nx e => match (e[0]? : Option DSlot) with
    | some (DSlot.slf (D.ins c' fs xs)) => if c' = c then some (.ins c' fs xs) else none
    | _ => none
  | _ => none
  else none
def metD (l : List (Str × Fn)) (m : Str) (ds : List D) : D → Option D
  | .ins c fs xs => if m ∈ fs then none else (l.lookup c).bind fun f => f (.ins c fs xs :: ds)
  | _ => none
def met (l : List (Str × Fn)) (m : Str) (o : Ex) (a : Ax) : Ex := fun e => (o e).bind fun d => (a e).bind fun ds => metD l m ds d
def attr (cs : List Str) (f : Str) : D → Option D
  | .ins c fs xs => if c ∈ cs then (fs.zip xs).lookup f else none
  | _ => none
def fld (cs : List Str) (f : Str) (a : Ex) : Ex := op1 (attr cs f) a
def putFD (f : Str) (d : D) : List Str → List D → List Str × List D
  | g :: gs, x :: xs => if g = f then (g :: gs, d :: xs) else (g :: (putFD f d gs xs).1, x :: (putFD f d gs xs).2)
  | _, _ => ([f], [d])
def setF (i : Nat) (c f : Str) (a : Ex) : Sx := fun e => (a e).bind fun d => match e[i]? with
  | some (.slf (.ins c' fs xs)) => if c' = c ∧ fs.length < 1000 ∧ fs.length = xs.length then some (.nx (e.set i (.slf (.ins c' (putFD f d fs xs).1 (putFD f d fs xs).2)))) else none
  | _ => none
end PV
namespace PV
open PySem
def inL : D → D → Option Bool
  | x, .lst ys => if x.plain 60 && D.plains 59 ys then some (ys.any fun z => D.eqv z x) else none
  | _, _ => none
def inS : D → D → Option Bool
  | .str x, .str y => match x.cps.toList with
    | [c] => some (decide (c ∈ y.cps.toList))
    | _ => none
  | _, _ => none
def neg (f : D → D → Option Bool) : D → D → Option Bool := fun a b => (f a b).map not
def prt (a : Ex) : DEnv → Option (Option Int) := fun e => (a e).bind fun d => match d with
  | .int i => some (some i)
  | _ => none
def prN : DEnv → Option (Option Int) := fun _ => some none
def six (n d : Nat) : Option Int → Nat
  | none => d
  | some v => if v < 0 then (v + (n : Int)).toNat else min v.toNat n
def cut {α : Type} (xs : List α) (lo hi : Option Int) : List α := (xs.drop (six xs.length 0 lo)).take (six xs.length xs.length hi - six xs.length 0 lo)
def slcT (lo hi : Option Int) : D → Option D
  | .tup xs => some (.tup (cut xs lo hi))
  | .ftup xs => some (if six xs.length 0 lo = 0 ∧ six xs.length xs.length hi = xs.length then .ftup xs else .tup (cut xs lo hi))
  | .str s => if s.length ≤ szL then some (.str ⟨(cut s.cps.toList lo hi).toArray⟩) else none
  | _ => none
def slcL (lo hi : Option Int) : D → Option D
  | .lst xs => some (.lst (cut xs lo hi))
  | _ => none
def slE (f : Option Int → Option Int → D → Option D) (a : Ex) (lo hi : DEnv → Option (Option Int)) : Ex := fun e => (a e).bind fun d => (lo e).bind fun l => (hi e).bind fun h => f l h d
def revL : D → Option D
  | .lst xs => some (.lst xs.reverse)
  | _ => none
def f1 (f : D → Option D) : Fn := fun ds => match ds with
  | [d] => f d
  | _ => none
def intsOf : List D → Option (List Int)
  | [] => some []
  | .int i :: r => (intsOf r).map (i :: ·)
  | _ :: _ => none
def blsOf : List D → Option (List Bool)
  | [] => some []
  | .bl i :: r => (blsOf r).map (i :: ·)
  | _ :: _ => none
def sumL : D → Option D
  | .lst xs => (intsOf xs).map fun ns => .int ns.sum
  | _ => none
def allL : D → Option D
  | .lst xs => (blsOf xs).map fun bs => .bl (bs.all id)
  | _ => none
def anyL : D → Option D
  | .lst xs => (blsOf xs).map fun bs => .bl (bs.any id)
  | _ => none
end PV
namespace PV
open PySem
def andV (a b : Ex) : Ex := fun e => (a e).bind fun d => match d with
  | .bl true => b e
  | .bl false => some (.bl false)
  | _ => none
def orV (a b : Ex) : Ex := fun e => (a e).bind fun d => match d with
  | .bl true => some (.bl true)
  | .bl false => b e
  | _ => none
def notV (a : Ex) : Ex := fun e => (a e).bind fun d => match d with
  | .bl b => some (.bl (!b))
  | _ => none
def isNonD : D → Bool
  | .non => true
  | _ => false
def isN (a : Ex) : Tx := fun e => (a e).map isNonD
end PV
namespace PV
open PySem
def app (i : Nat) (a : Ex) : Sx := fun e => (a e).bind fun d => match (e[i]? : Option DSlot) with
  | some (DSlot.own (D.lst xs)) => if xs.length < szL then some (.nx (e.set i (.own (.lst (xs ++ [d]))))) else none
  | _ => none
def ext (i : Nat) (a : Ex) : Sx := fun e => (a e).bind fun d => match (e[i]? : Option DSlot), d with
  | some (DSlot.own (D.lst xs)), .lst ys => if xs.length + ys.length ≤ szL then some (.nx (e.set i (.own (.lst (xs ++ ys))))) else none
  | _, _ => none
def stK (i : Nat) (k a : Ex) : Sx := fun e => (a e).bind fun d => (k e).bind fun kd => match (e[i]? : Option DSlot) with
  | some (DSlot.own (D.dic t ks vs)) => if keyD t kd ∧ ks.length < szL ∧ ks.length = vs.length then some (.nx (e.set i (.own (.dic t (dput ks vs kd d).1 (dput ks vs kd d).2)))) else none
  | _ => none
def op3 (f : D → D → D → Option D) (a b c : Ex) : Ex := fun e => (a e).bind fun x => (b e).bind fun y => (c e).bind fun z => f x y z
end PV

namespace PV
open PySem PySem.Spec PyProof.Rows L2

def kD : Key → D
  | .inl i => .int i
  | .inr x => .str x
section
variable (mg : Str → Option Value)
mutual
inductive Rep (A : Addr → Prop) (H : Hp) : V → D → Prop
  | non : Rep A H .non .non
  | bl (b : Bool) : Rep A H (.bl b) (.bl b)
  | int (i : Int) : Rep A H (.int i) (.int i)
  | str (x : Str) : Rep A H (.str x) (.str x)
  | tup {a : Addr} {xs : List V} {ds : List D} : H a = some (.tup xs) → Reps A H xs ds → Rep A H (.ref a) (.tup ds)
  | lst {a : Addr} {xs : List V} {ds : List D} : A a → H a = some (.lst xs) → Reps A H xs ds → Rep A H (.ref a) (.lst ds)
  | scr {a : Addr} {ns : List Int} : A a → Rd H a (.lst (ns.map V.int)) → Rep A H (.ref a) (.scr ns)
  | dicK {a : Addr} {kvs : List (Key × V)} {ds : List D} : A a → Rd H a (.dK kvs) → Reps A H (kvs.map (·.2)) ds → Rep A H (.ref a) (.dic false (kvs.map fun p => kD p.1) ds)
  | dicT {a : Addr} {kvs : List (List Key × V)} {ds : List D} : A a → Rd H a (.dT kvs) → Reps A H (kvs.map (·.2)) ds → Rep A H (.ref a) (.dic true (kvs.map fun p => .tup (p.1.map kD)) ds)
  | ins {a C dx : Addr} {c : Str} {fs : List (Str × V)} {ds : List D} : A a → H a = some (.ins C dx fs) → mg c = some (.ref C) → Reps A H (fs.map (·.2)) ds → Rep A H (.ref a) (.ins c (fs.map (·.1)) ds)
  | ftup {a : Addr} {o : Obj} {xs : List V} {ds : List D} : H a = some (.frz o (.tup xs)) → o.dict = none → Reps A H xs ds → Rep A H (.ref a) (.ftup ds)
inductive Reps (A : Addr → Prop) (H : Hp) : List V → List D → Prop
  | nil : Reps A H [] []
  | cons {v : V} {vs : List V} {d : D} {ds : List D} : Rep A H v d → Reps A H vs ds → Reps A H (v :: vs) (d :: ds)
end
inductive Own (A : Addr → Prop) (H : Hp) (a : Addr) : D → Prop
  | lst {xs : List V} {ds : List D} : H a = some (.lst xs) → Reps mg A H xs ds → Own A H a (.lst ds)
  | dicK {kvs : List (Key × V)} {ds : List D} : H a = some (.dK kvs) → Reps mg A H (kvs.map (·.2)) ds → Own A H a (.dic false (kvs.map fun p => kD p.1) ds)
  | dicT {kvs : List (List Key × V)} {ds : List D} : H a = some (.dT kvs) → Reps mg A H (kvs.map (·.2)) ds → Own A H a (.dic true (kvs.map fun p => .tup (p.1.map kD)) ds)
  | ins {C dx : Addr} {c : Str} {fs : List (Str × V)} {ds : List D} : H a = some (.ins C dx fs) → mg c = some (.ref C) → Reps mg A H (fs.map (·.2)) ds → Own A H a (.ins c (fs.map (·.1)) ds)
end

class LT where
  T : List (Addr × Str)
instance (priority := 10) LT.none : LT := ⟨[]⟩
class RT where
  nw : Bool
  so : Bool
instance (priority := 10) RT.no : RT := ⟨false, false⟩
@[reducible] def RT.yes : RT := ⟨true, false⟩
@[reducible] def RT.st : RT := ⟨true, true⟩
variable [LT]
class NT (o : HO) : Prop where
  nt : ∀ ps, o ≠ .tbl ps
instance : NT (.lst xs) := ⟨fun _ h => nomatch h⟩
instance : NT (.tup xs) := ⟨fun _ h => nomatch h⟩
instance : NT (.dK xs) := ⟨fun _ h => nomatch h⟩
instance : NT (.dT xs) := ⟨fun _ h => nomatch h⟩
instance : NT (.ins C dx fs) := ⟨fun _ h => nomatch h⟩
instance : NT (.frz o u) := ⟨fun _ h => nomatch h⟩
instance : NT (.xd fs) := ⟨fun _ h => nomatch h⟩
instance : NT (.own y) := ⟨fun _ h => nomatch h⟩
instance : NT (.set S n) := ⟨fun _ h => nomatch h⟩
instance : NT (.ext φ) := ⟨fun _ h => nomatch h⟩
structure Same (H H' : Hp) : Prop where
  stay : ∀ (b : Addr) (o : HO), H b = some o → [NT o] → H' b = some o
  tab : LamX.Tabs LT.T H → LamX.Tabs LT.T H'
  dom : ∀ b, H' b = none → H b = none
instance {H H' : Hp} : CoeFun (Same H H') (fun _ => ∀ (b : Addr) (o : HO), H b = some o → [NT o] → H' b = some o) := ⟨fun s => s.stay⟩
theorem Same.of {H H' : Hp} (e : ∀ b o, H b = some o → H' b = some o) : Same H H' := ⟨fun b o h => e b o h, fun t => t.ext e, fun b h => by
  cases q : H b with
  | none => rfl
  | some o => rw [e b o q] at h; cases h⟩
theorem Same.refl (H : Hp) : Same H H := Same.of fun _ _ h => h
theorem Same.trans {H H1 H2 : Hp} (a : Same H H1) (b : Same H1 H2) : Same H H2 := ⟨fun c o h => b.stay c o (a.stay c o h), fun t => b.tab (a.tab t), fun c h => a.dom c (b.dom c h)⟩
theorem Same.free {H H' : Hp} (e : Same H H') {l : Addr} (h : H' l = Option.none) : H l = Option.none := e.dom l h
theorem Same.seq {K : PySem.W.Frag} {H H' : Hp} {a : Addr} {xs : List V} (e : Same H H') (h : SqL K H a xs) : SqL K H' a xs := by
  rcases h with (h | ⟨o, h⟩) | h
  · exact .inl (.inl (e _ _ h))
  · exact .inl (.inr ⟨o, e _ _ h⟩)
  · exact .inr h
structure Keep (A : Addr → Prop) (H H' : Hp) : Prop where
  rd : ∀ (a : Addr) (u : HO), A a → [NT u] → Rd H a u → Rd H' a u
  ins : ∀ a C dx fs, A a → H a = some (.ins C dx fs) → H' a = some (.ins C dx fs)
  lst : ∀ a xs, A a → H a = some (.lst xs) → H' a = some (.lst xs)
  tup : ∀ a xs, H a = some (.tup xs) → H' a = some (.tup xs)
  fz : ∀ a o xs, H a = some (.frz o (.tup xs)) → H' a = some (.frz o (.tup xs))
theorem Same.rd {H H' : Hp} (e : Same H H') {a : Addr} {u : HO} [NT u] (h : Rd H a u) : Rd H' a u := by
  rcases h with h | ⟨o, h⟩
  · exact .inl (e _ _ h)
  · exact .inr ⟨o, e _ _ h⟩
theorem Same.keep {A : Addr → Prop} {H H' : Hp} (e : Same H H') : Keep A H H' := ⟨fun _ _ _ _ h => Same.rd e h, fun _ _ _ _ _ h => e _ _ h, fun _ _ _ h => e _ _ h, fun _ _ h => e _ _ h, fun _ _ _ h => e _ _ h⟩
section
variable {K : PySem.W.Frag} {mg : Str → Option Value} {A A' : Addr → Prop} {H H' : Hp}
mutual
theorem Rep.mono (hA : ∀ a, A a → A' a) (k : Keep A H H') : ∀ {v : V} {d : D}, Rep mg A H v d → Rep mg A' H' v d
  | _, _, .non => .non
  | _, _, .bl b => .bl b
  | _, _, .int i => .int i
  | _, _, .str x => .str x
  | _, _, .tup h r => .tup (k.tup _ _ h) (Reps.mono hA k r)
  | _, _, .ftup h d r => .ftup (k.fz _ _ _ h) d (Reps.mono hA k r)
  | _, _, .lst a h r => .lst (hA _ a) (k.lst _ _ a h) (Reps.mono hA k r)
  | _, _, .scr a h => .scr (hA _ a) (k.rd _ _ a h)
  | _, _, .dicK a h r => .dicK (hA _ a) (k.rd _ _ a h) (Reps.mono hA k r)
  | _, _, .dicT a h r => .dicT (hA _ a) (k.rd _ _ a h) (Reps.mono hA k r)
  | _, _, .ins a h c r => .ins (hA _ a) (k.ins _ _ _ _ a h) c (Reps.mono hA k r)
theorem Reps.mono (hA : ∀ a, A a → A' a) (k : Keep A H H') : ∀ {vs : List V} {ds : List D}, Reps mg A H vs ds → Reps mg A' H' vs ds
  | _, _, .nil => .nil
  | _, _, .cons h t => .cons (Rep.mono hA k h) (Reps.mono hA k t)
end
theorem Rep.same (r : Rep mg A H v d) (e : Same H H') : Rep mg A H' v d := r.mono (fun _ h => h) (Same.keep e)
theorem Reps.same (r : Reps mg A H vs ds) (e : Same H H') : Reps mg A H' vs ds := r.mono (fun _ h => h) (Same.keep e)
theorem Reps.len : ∀ {vs : List V} {ds : List D}, Reps mg A H vs ds → vs.length = ds.length
  | _, _, .nil => rfl
  | _, _, .cons _ t => congrArg (· + 1) (Reps.len t)
theorem Reps.get : ∀ {vs : List V} {ds : List D} {i : Nat} {d : D}, Reps mg A H vs ds → ds[i]? = some d → ∃ v, vs[i]? = some v ∧ Rep mg A H v d
  | _, _, _, _, .nil, e => by simp at e
  | _, _, 0, _, .cons h _, e => by simp at e; subst e; exact ⟨_, rfl, h⟩
  | _, _, i + 1, _, .cons _ t, e => by
    obtain ⟨v, h1, h2⟩ := Reps.get (i := i) t (by simpa using e)
    exact ⟨v, by simpa using h1, h2⟩
theorem Reps.append : ∀ {vs ws : List V} {ds es : List D}, Reps mg A H vs ds → Reps mg A H ws es → Reps mg A H (vs ++ ws) (ds ++ es)
  | _, _, _, _, .nil, s => s
  | _, _, _, _, .cons h t, s => .cons h (Reps.append t s)
theorem Reps.rep (n : Nat) {vs : List V} {ds : List D} (h : Reps mg A H vs ds) : Reps mg A H (List.replicate n vs).flatten (List.replicate n ds).flatten := by
  induction n with
  | zero => exact .nil
  | succ n ih => simp only [List.replicate_succ, List.flatten_cons]; exact h.append ih
theorem Reps.take : ∀ {vs : List V} {ds : List D} (n : Nat), Reps mg A H vs ds → Reps mg A H (vs.take n) (ds.take n)
  | _, _, 0, _ => .nil
  | _, _, _ + 1, .nil => .nil
  | _, _, n + 1, .cons h t => .cons h (Reps.take n t)
theorem Reps.drop : ∀ {vs : List V} {ds : List D} (n : Nat), Reps mg A H vs ds → Reps mg A H (vs.drop n) (ds.drop n)
  | _, _, 0, r => r
  | _, _, _ + 1, .nil => .nil
  | _, _, n + 1, .cons _ t => Reps.drop n t
theorem Reps.reverse : ∀ {vs : List V} {ds : List D}, Reps mg A H vs ds → Reps mg A H vs.reverse ds.reverse
  | _, _, .nil => .nil
  | _, _, .cons h t => by
    rw [List.reverse_cons, List.reverse_cons]
    exact (Reps.reverse t).append (.cons h .nil)
theorem Reps.set : ∀ {vs : List V} {ds : List D} {v : V} {d : D} (i : Nat), Reps mg A H vs ds → Rep mg A H v d → Reps mg A H (vs.set i v) (ds.set i d)
  | _, _, _, _, _, .nil, _ => .nil
  | _, _, _, _, 0, .cons _ t, r => .cons r t
  | _, _, _, _, i + 1, .cons h t, r => .cons h (Reps.set i t r)
mutual
/-- what holds no list, dict, instance, leans on no address -/
theorem Rep.immut {B : Addr → Prop} : ∀ {v : V} {d : D}, d.imm = true → Rep mg A H v d → Rep mg B H v d
  | _, _, _, .non => .non
  | _, _, _, .bl b => .bl b
  | _, _, _, .int i => .int i
  | _, _, _, .str x => .str x
  | _, _, e, .tup h r => .tup h (Reps.immut (by simpa [D.imm] using e) r)
  | _, _, e, .ftup h d r => .ftup h d (Reps.immut (by simpa [D.imm] using e) r)
  | _, _, e, .lst .. => by simp [D.imm] at e
  | _, _, e, .scr .. => by simp [D.imm] at e
  | _, _, e, .dicK .. => by simp [D.imm] at e
  | _, _, e, .dicT .. => by simp [D.imm] at e
  | _, _, e, .ins .. => by simp [D.imm] at e
theorem Reps.immut {B : Addr → Prop} : ∀ {vs : List V} {ds : List D}, D.imms ds = true → Reps mg A H vs ds → Reps mg B H vs ds
  | _, _, _, .nil => .nil
  | _, _, e, .cons h t => by
    have e' : _ := e
    simp only [D.imms, Bool.and_eq_true] at e'
    exact .cons (Rep.immut e'.1 h) (Reps.immut e'.2 t)
end
theorem Own.mono {a : Addr} {d : D} (r : Own mg A H a d) (hA : ∀ a, A a → A' a) (k : Keep A H H') (e : ∀ (o : HO), H a = some o → [NT o] → H' a = some o) : Own mg A' H' a d := by
  cases r with
  | lst h r => exact .lst (e _ h) (r.mono hA k)
  | dicK h r => exact .dicK (e _ h) (r.mono hA k)
  | dicT h r => exact .dicT (e _ h) (r.mono hA k)
  | ins h c r => exact .ins (e _ h) c (r.mono hA k)
theorem Own.some {a : Addr} {d : D} (r : Own mg A H a d) : ∃ o, H a = some o := by
  cases r with
  | lst h r => exact ⟨_, h⟩
  | dicK h r => exact ⟨_, h⟩
  | dicT h r => exact ⟨_, h⟩
  | ins h c r => exact ⟨_, h⟩
theorem Own.rep {a : Addr} {d : D} (r : Own mg A H a d) (hA : ∀ a, A a → A' a) (ha : A' a) : Rep mg A' H (.ref a) d := by
  have k : Keep A H H := Same.keep (Same.refl H)
  cases r with
  | lst h r => exact .lst ha h (r.mono hA k)
  | dicK h r => exact .dicK ha (.inl h) (r.mono hA k)
  | dicT h r => exact .dicT ha (.inl h) (r.mono hA k)
  | ins h c r => exact .ins ha h c (r.mono hA k)
end
end PV

namespace PV
variable [LT] [RT]
open PySem PySem.Spec PyProof.Rows L2

structure Bs where
  H0 : Hp
  A0 : Addr → Prop
  sf : Addr
  tb : LamX.Tabs LT.T H0
def Lv (B : Bs) (O : Nat → Option Addr) (τ : Bool) (a : Addr) : Prop := (B.A0 a ∨ B.H0 a = none) ∧ (τ = true ∨ ∀ j, O j ≠ some a)
structure Fr (A : Addr → Prop) (H : Hp) : Prop where
  new : ∀ a, H a = Option.none → A a
  tb : LamX.Tabs LT.T H
instance {A : Addr → Prop} {H : Hp} : CoeFun (Fr A H) (fun _ => ∀ a, H a = Option.none → A a) := ⟨fun f => f.new⟩
theorem Same.tabs {H H' : Hp} (s : Same H H') (t : LamX.Tabs LT.T H) : LamX.Tabs LT.T H' := s.tab t
def Wr : HO → Prop
  | .lst _ => True
  | .dK _ => True
  | .dT _ => True
  | .ins _ _ _ => True
  | .ext φ => ∀ c q, HO.ext φ ≠ LamX.CodeO c q
  | _ => False
theorem Wr.nt {o : HO} (w : Wr o) : NT o := ⟨fun ps e => by subst e; exact w⟩
structure ERel (K : PySem.W.Frag) (mg : Str → Option Value) (B : Bs) (O : Nat → Option Addr) (σ : L2.St) (H : Hp) (env : DEnv) : Prop where
  len : env.length = σ.length
  same : Same B.H0 H
  vals : ∀ (i : Nat) (d : D), env[i]? = some (DSlot.val d) → ∃ v, σ[i]? = some (some v) ∧ Rep mg (Lv B O false) H v d
  owns : ∀ (i : Nat) (d : D), env[i]? = some (DSlot.own d) → ∃ p, O i = some p ∧ σ[i]? = some (some (.ref p)) ∧ B.H0 p = none ∧ Own mg (Lv B O false) H p d
  slfs : ∀ (i : Nat) (d : D), env[i]? = some (DSlot.slf d) → O i = some B.sf ∧ σ[i]? = some (some (.ref B.sf)) ∧ Own mg (Lv B O false) H B.sf d
  inj : ∀ (i j : Nat) (p : Addr), O i = some p → O j = some p → i = j
  trk : ∀ (i : Nat) (p : Addr), O i = some p → ∃ o, H p = some o ∧ Wr o
  fr0 : ∀ (i : Nat) (p : Addr), O i = some p → B.H0 p = none
  bd : ∃ n, ∀ i, n ≤ i → O i = none
  nst : ∀ (i : Nat) (p : Addr), O i = some p → i < env.length → ∃ d, env[i]? = some (DSlot.own d) ∨ env[i]? = some (DSlot.slf d)
section
variable {K : PySem.W.Frag} {mg : Str → Option Value} {B : Bs} {H H' H1 H2 : Hp} {O O' O1 O2 : Nat → Option Addr} {σ : L2.St} {env : DEnv} {τ : Bool}
theorem Lv.mono {a : Addr} (h : Lv B O false a) : Lv B O τ a := ⟨h.1, h.2.elim (fun z => Bool.noConfusion z) fun z => .inr z⟩
theorem Lv.any {a : Addr} (h : Lv B O τ a) : Lv B O true a := ⟨h.1, .inl rfl⟩
theorem ERel.heap (r : ERel K mg B O σ H env) (s : Same H H') : ERel K mg B O σ H' env :=
  ⟨r.len, r.same.trans s, fun i d e => let ⟨v, h1, h2⟩ := r.vals i d e; ⟨v, h1, h2.same s⟩,
   fun i d e => let ⟨p, h1, h2, h3, h4⟩ := r.owns i d e; ⟨p, h1, h2, h3, h4.mono (fun _ z => z) (Same.keep s) fun o z _ => s _ _ z⟩, fun i d e => let ⟨h1, h2, h4⟩ := r.slfs i d e; ⟨h1, h2, h4.mono (fun _ z => z) (Same.keep s) fun o z _ => s _ _ z⟩, r.inj, fun i p e => let ⟨o, z, w⟩ := r.trk i p e; haveI := Wr.nt w; ⟨o, s _ _ z, w⟩, r.fr0, r.bd, r.nst⟩
theorem ERel.fr (r : ERel K mg B O σ H env) : Fr (Lv B O τ) H := by
  refine ⟨fun a h => ⟨.inr (Same.free r.same h), .inr fun j e => ?_⟩, r.same.tabs B.tb⟩
  obtain ⟨o, z, _⟩ := r.trk j a e
  rw [h] at z; cases z
structure Fm (O : Nat → Option Addr) (H : Hp) (O' : Nat → Option Addr) (H' : Hp) : Prop where
  keep : ∀ (b : Addr) (o : HO), (∀ j, O j ≠ some b) → H b = some o → [NT o] → H' b = some o
  tab : LamX.Tabs LT.T H → LamX.Tabs LT.T H'
  dom : ∀ b, H' b = none → H b = none
  sub : ∀ j b, O' j = some b → (∃ i, O i = some b) ∨ H b = none
theorem Fm.of_same (s : Same H H') : Fm O H O H' := ⟨fun b o _ e _ => s b o e, s.tab, s.dom, fun j b e => .inl ⟨j, e⟩⟩
theorem Fm.trans (a : Fm O H O1 H1) (b : Fm O1 H1 O2 H2) : Fm O H O2 H2 := by
  have out : ∀ c o, (∀ j, O j ≠ some c) → H c = some o → ∀ j, O1 j ≠ some c := fun c o hc e j z => by
    rcases a.sub j c z with ⟨i, q⟩ | q
    · exact hc i q
    · rw [e] at q; cases q
  refine ⟨fun c o hc e _ => b.keep c o (out c o hc e) (a.keep c o hc e), fun t => b.tab (a.tab t), fun c h => a.dom c (b.dom c h), fun j c e => ?_⟩
  rcases b.sub j c e with ⟨i, q⟩ | q
  · exact a.sub i c q
  · by_cases hc : ∃ i, O i = some c
    · exact .inl hc
    · cases z : H c with
      | none => exact .inr rfl
      | some o =>
        have := a.dom c q
        rw [z] at this; cases this
end

section
variable {K : PySem.W.Frag} {mg : Str → Option Value} {A : Addr → Prop} {H : Hp} {p : Addr}
theorem Rd.ne {a : Addr} {u : HO} (h : Rd H a u) (hp : H p = none) : a ≠ p := fun e => by
  subst e
  rcases h with h | ⟨o, h⟩ <;> (rw [hp] at h; cases h)
mutual
theorem Rep.ne (hp : H p = none) : ∀ {v : V} {d : D}, Rep mg A H v d → Rep mg (fun a => A a ∧ a ≠ p) H v d
  | _, _, .non => .non
  | _, _, .bl b => .bl b
  | _, _, .int i => .int i
  | _, _, .str x => .str x
  | _, _, .tup h r => .tup h (Reps.ne hp r)
  | _, _, .ftup h d r => .ftup h d (Reps.ne hp r)
  | _, _, .lst a h r => .lst ⟨a, Rd.ne (.inl h) hp⟩ h (Reps.ne hp r)
  | _, _, .scr a h => .scr ⟨a, Rd.ne h hp⟩ h
  | _, _, .dicK a h r => .dicK ⟨a, Rd.ne h hp⟩ h (Reps.ne hp r)
  | _, _, .dicT a h r => .dicT ⟨a, Rd.ne h hp⟩ h (Reps.ne hp r)
  | _, _, .ins a h c r => .ins ⟨a, Rd.ne (.inl h) hp⟩ h c (Reps.ne hp r)
theorem Reps.ne (hp : H p = none) : ∀ {vs : List V} {ds : List D}, Reps mg A H vs ds → Reps mg (fun a => A a ∧ a ≠ p) H vs ds
  | _, _, .nil => .nil
  | _, _, .cons h t => .cons (Rep.ne hp h) (Reps.ne hp t)
end
theorem Rd.trk {a : Addr} {u : HO} (h : Rd H a u) : ∃ o, H a = some o := by
  rcases h with h | ⟨o, h⟩
  · exact ⟨_, h⟩
  · exact ⟨_, h⟩
mutual
theorem Rep.keepT {B : Addr → Prop} (f : ∀ a, A a → (∃ o, H a = some o) → B a) : ∀ {v : V} {d : D}, Rep mg A H v d → Rep mg B H v d
  | _, _, .non => .non
  | _, _, .bl b => .bl b
  | _, _, .int i => .int i
  | _, _, .str x => .str x
  | _, _, .tup h r => .tup h (Reps.keepT f r)
  | _, _, .ftup h d r => .ftup h d (Reps.keepT f r)
  | _, _, .lst a h r => .lst (f _ a ⟨_, h⟩) h (Reps.keepT f r)
  | _, _, .scr a h => .scr (f _ a (Rd.trk h)) h
  | _, _, .dicK a h r => .dicK (f _ a (Rd.trk h)) h (Reps.keepT f r)
  | _, _, .dicT a h r => .dicT (f _ a (Rd.trk h)) h (Reps.keepT f r)
  | _, _, .ins a h c r => .ins (f _ a ⟨_, h⟩) h c (Reps.keepT f r)
theorem Reps.keepT {B : Addr → Prop} (f : ∀ a, A a → (∃ o, H a = some o) → B a) : ∀ {vs : List V} {ds : List D}, Reps mg A H vs ds → Reps mg B H vs ds
  | _, _, .nil => .nil
  | _, _, .cons h t => .cons (Rep.keepT f h) (Reps.keepT f t)
end
end

section
variable (K : PySem.W.Frag) (mg : Str → Option Value)
def tE (τ : Bool) (de : Ex) : TE := fun σ H Q => ∃ B O env d, ERel K mg B O σ H env ∧ de env = some d ∧ ∀ v H', Same H H' → Rep mg (Lv B O τ) H' v d → Q v H'
def tT (dt : Tx) : TT := fun σ H Q => ∃ B O env b, ERel K mg B O σ H env ∧ dt env = some b ∧ ∀ H', Same H H' → Q b H'
def tA (τ : Bool) (da : Ax) : TA := fun σ H Q => ∃ B O env ds, ERel K mg B O σ H env ∧ da env = some ds ∧ ∀ vs H', Same H H' → Reps mg (Lv B O τ) H' vs ds → Q vs H'
def tN (de : Ex) : TE := fun σ H Q => ∃ B O env d, ERel K mg B O σ H env ∧ de env = some d ∧ ∀ p H', Same H H' → H p = none → Own mg (fun a => Lv B O false a ∧ a ≠ p) H' p d → Q (.ref p) H'
def retP (B : Bs) (H' : Hp) (v : V) (d : D) : Prop := match RT.nw with
  | false => Rep mg (Lv B (fun _ => none) true) H' v d
  | true => match RT.so with
    | false => ∃ p, v = .ref p ∧ B.H0 p = none ∧ Own mg (fun a => Lv B (fun _ => none) true a ∧ a ≠ p) H' p d
    | true => ∃ d0 dn, d = .tup [d0, dn] ∧ Rep mg (fun a => Lv B (fun _ => none) true a ∧ a ≠ B.sf) H' v d0 ∧ Own mg (fun a => Lv B (fun _ => none) true a ∧ a ≠ B.sf) H' B.sf dn
def PostS (B : Bs) (O : Nat → Option Addr) (H : Hp) (D : Ends) : DRes → Prop
  | .nx e => ∀ σ' H' O', ERel K mg B O' σ' H' e → Fm O H O' H' → D.nx σ' H'
  | .bk e => ∀ σ' H' O', ERel K mg B O' σ' H' e → Fm O H O' H' → D.bk σ' H'
  | .ct e => ∀ σ' H' O', ERel K mg B O' σ' H' e → Fm O H O' H' → D.ct σ' H'
  | .ret d => ∀ v H', Same B.H0 H' → retP mg B H' v d → D.rt v H'
def tS (db : Sx) : TS := fun D σ H => ∃ B O env r, ERel K mg B O σ H env ∧ db env = some r ∧ PostS K mg B O H D r
def tG (dg : Gx) : TG := fun v σ H Q => ∃ B O env env' d, ERel K mg B O σ H env ∧ Rep mg (Lv B O false) H v d ∧ dg d env = some env' ∧ ∀ σ' H' O', ERel K mg B O' σ' H' env' → Fm O H O' H' → Q σ' H'
def Walks (A : Addr → Prop) (J : It) (ds : List D) (H1 : Hp) : Prop := ∀ (i : Nat) H, Keep A H1 H → (∀ x, ds[i]? = some x → J.go i H ∧ ∀ v H', J.yld i H v H' → Same H H' ∧ Rep mg A H' v x) ∧ (ds[i]? = none → J.stop i H)
def tI (di : Ax) : TI := fun σ H R => ∃ B O env ds, ERel K mg B O σ H env ∧ di env = some ds ∧ ∀ J H', Same H H' → Walks mg (fun a => Lv B O false a ∧ ∃ o, H' a = some o) J ds H' → R J H'
def rC (f : Fn) : List V → Hp → VK → Prop := fun vs H Q => ∃ A ds d, Fr A H ∧ Reps mg A H vs ds ∧ f ds = some d ∧ ∀ v H', Same H H' → Rep mg A H' v d → Q v H'
def spD (f : Fn) : Sp := fun vs H Q _ => rC mg f vs H Q
def rD (f : D → D → Option D) : R2 := fun x y H Q => ∃ A dx dy d, Fr A H ∧ Rep mg A H x dx ∧ Rep mg A H y dy ∧ f dx dy = some d ∧ ∀ v H', Same H H' → Rep mg A H' v d → Q v H'
end
theorem retP_rep {mg : Str → Option Value} {B : Bs} {H' : Hp} {v : V} {d : D} (hs : RT.so = false) (h : retP mg B H' v d) : Rep mg (Lv B (fun _ => none) true) H' v d := by
  unfold retP at h
  rw [hs] at h
  split at h
  · exact h
  · obtain ⟨p, rfl, hp, o⟩ := h
    exact o.rep (fun a z => z.1) ⟨.inr hp, .inl rfl⟩
theorem retP_of {mg : Str → Option Value} {B : Bs} {H' : Hp} {v : V} {d : D} (hn : RT.nw = false) (h : Rep mg (Lv B (fun _ => none) true) H' v d) : retP mg B H' v d := by
  unfold retP
  rw [hn]
  exact h
abbrev SE (X : Cx) (τ : Bool) (e : Expr) (de : Ex) : Prop := PE X e (tE X.K X.mg τ de)
abbrev SN (X : Cx) (e : Expr) (de : Ex) : Prop := PE X e (tN X.K X.mg de)
abbrev ST (X : Cx) (e : Expr) (dt : Tx) : Prop := PT X e (tT X.K X.mg dt)
abbrev SWd (X : Cx) (e : Expr) (dt : Tx) : Prop := PW X e (tT X.K X.mg dt)
abbrev SA (X : Cx) (τ : Bool) (es : List Expr) (da : Ax) : Prop := PA X es (tA X.K X.mg τ da)
abbrev SS (X : Cx) (s : Stmt) (ds : Sx) : Prop := PS X s (tS X.K X.mg ds)
abbrev SSs (X : Cx) (s : List Stmt) (ds : Sx) : Prop := PSs X s (tS X.K X.mg ds)
abbrev SG (X : Cx) (tg : Expr) (dg : Gx) : Prop := PG X tg (tG X.K X.mg dg)
abbrev SI (X : Cx) (tg e : Expr) (di : Ax) : Prop := PI X tg e (tI X.K X.mg di)

theorem _root_.L2.PE.weak {X : Cx} {e : Expr} {t t' : TE} (h : PE X e t) (w : ∀ σ H Q, t' σ H Q → t σ H Q) : PE X e t' := ⟨fun pins s σ H Q I q => h.run pins s σ H Q I (w _ _ _ q)⟩
theorem _root_.L2.PT.weak {X : Cx} {e : Expr} {t t' : TT} (h : PT X e t) (w : ∀ σ H Q, t' σ H Q → t σ H Q) : PT X e t' := ⟨fun pins s σ H Q I q => h.run pins s σ H Q I (w _ _ _ q)⟩
theorem _root_.L2.PW.weak {X : Cx} {e : Expr} {t t' : TT} (h : PW X e t) (w : ∀ σ H Q, t' σ H Q → t σ H Q) : PW X e t' := ⟨fun wh pins s σ H Q I q => h.run wh pins s σ H Q I (w _ _ _ q)⟩
theorem _root_.L2.PA.weak {X : Cx} {e : List Expr} {t t' : TA} (h : PA X e t) (w : ∀ σ H Q, t' σ H Q → t σ H Q) : PA X e t' := ⟨fun pos pins s σ H Q I q => h.run pos pins s σ H Q I (w _ _ _ q)⟩
theorem _root_.L2.PS.weak {X : Cx} {e : Stmt} {t t' : TS} (h : PS X e t) (w : ∀ D σ H, t' D σ H → t D σ H) : PS X e t' := ⟨fun pins s σ H D I q => h.run pins s σ H D I (w _ _ _ q)⟩
theorem _root_.L2.PSs.weak {X : Cx} {e : List Stmt} {t t' : TS} (h : PSs X e t) (w : ∀ D σ H, t' D σ H → t D σ H) : PSs X e t' := ⟨fun pins s σ H D I q => h.run pins s σ H D I (w _ _ _ q)⟩
theorem _root_.L2.PG.weak {X : Cx} {e : Expr} {t t' : TG} (h : PG X e t) (w : ∀ v σ H Q, t' v σ H Q → t v σ H Q) : PG X e t' := ⟨fun pins s σ H v u Q I r q => h.run pins s σ H v u Q I r (w _ _ _ _ q)⟩
theorem _root_.L2.PGs.weak {X : Cx} {e : List Expr} {t t' : TGs} (h : PGs X e t) (w : ∀ v σ H Q, t' v σ H Q → t v σ H Q) : PGs X e t' := ⟨fun pins s σ H v u Q I r q => h.run pins s σ H v u Q I r (w _ _ _ _ q)⟩
theorem _root_.L2.PI.weak {X : Cx} {tg e : Expr} {t t' : TI} (h : PI X tg e t) (w : ∀ σ H R, t' σ H R → t σ H R) : PI X tg e t' := ⟨fun pins s σ H R I q => h.run pins s σ H R I (w _ _ _ q)⟩

theorem bnd {α β : Type} {o : Option α} {f : α → Option β} {b : β} (h : o.bind f = some b) : ∃ a, o = some a ∧ f a = some b := Option.bind_eq_some_iff.mp h

section
variable {X : Cx} {τ : Bool}
theorem SE.up {e : Expr} {de : Ex} (h : SE X false e de) : SE X τ e de := h.weak fun σ H Q ⟨B, O, env, d, r, h1, q⟩ => ⟨B, O, env, d, r, h1, fun v H' s rv => q v H' s (rv.mono (fun _ z => Lv.mono z) (Same.keep (Same.refl _)))⟩
theorem se_var (i : Nat) {x : Str} {pos : Pos} (hN : X.N[i]? = some x := by rfl) (hv : Vis X.env.scope x := by first | exact Or.inl rfl | exact Or.inr (Or.inl rfl) | exact Or.inr (Or.inr rfl)) (hd : (x == ("__debug__" : Str)) = false := by decide)
    (hcd : (x == ("__classdict__" : Str)) = false := by decide) : SE X τ (.Name x pos) (var i) := (pe_var hN hv hd hcd).weak fun σ H Q ⟨B, O, env, d, r, h1, q⟩ => by
  unfold var at h1
  split at h1
  · rename_i d' e
    cases h1
    obtain ⟨v, h2, h3⟩ := r.vals i _ e
    exact ⟨v, h2, q v H (Same.refl H) (h3.mono (fun _ z => Lv.mono z) (Same.keep (Same.refl _)))⟩
  · cases h1
theorem se_ovar (i : Nat) {x : Str} {pos : Pos} (hN : X.N[i]? = some x := by rfl) (hv : Vis X.env.scope x := by first | exact Or.inl rfl | exact Or.inr (Or.inl rfl) | exact Or.inr (Or.inr rfl)) (hd : (x == ("__debug__" : Str)) = false := by decide)
    (hcd : (x == ("__classdict__" : Str)) = false := by decide) : SE X true (.Name x pos) (ovar i) := (pe_var hN hv hd hcd).weak fun σ H Q ⟨B, O, env, d, r, h1, q⟩ => by
  unfold ovar at h1
  split at h1
  · rename_i d' e
    cases h1
    obtain ⟨p, h2, h3, h4, h5⟩ := r.owns i _ e
    exact ⟨.ref p, h3, q _ H (Same.refl H) (h5.rep (fun _ z => Lv.mono z) ⟨.inr h4, .inl rfl⟩)⟩
  · cases h1
theorem se_int {i j pos} : SE X τ (.Constant (.int i) j pos) (cst (.int i)) := pe_int.weak fun σ H Q ⟨B, O, env, d, r, h1, q⟩ => by cases h1; exact q _ H (Same.refl H) (.int i)
theorem se_bl {i j pos} : SE X τ (.Constant (.bool i) j pos) (cst (.bl i)) := pe_bl.weak fun σ H Q ⟨B, O, env, d, r, h1, q⟩ => by cases h1; exact q _ H (Same.refl H) (.bl i)
theorem se_str {i j pos} : SE X τ (.Constant (.str i) j pos) (cst (.str i)) := pe_str.weak fun σ H Q ⟨B, O, env, d, r, h1, q⟩ => by cases h1; exact q _ H (Same.refl H) (.str i)
theorem se_imm {e : Expr} {de : Ex} (h : SE X true e de) : SE X τ e (imm de) := h.weak fun σ H Q ⟨B, O, env, d, r, h1, q⟩ => by
  obtain ⟨d', h2, h3⟩ := bnd h1
  split at h3
  · rename_i hi
    cases h3
    exact ⟨B, O, env, d, r, h2, fun v H' s rv => q v H' s (rv.immut hi)⟩
  · cases h3
theorem tOp_of {f : D → D → Option D} {a b : Ex} {K : PySem.W.Frag} {mg : Str → Option Value} {σ : L2.St} {H : Hp} {Q : VK} (h : tE K mg τ (op2 f a b) σ H Q) : tOp (rD mg f) (tE K mg τ a) (tE K mg τ b) σ H Q := by
  obtain ⟨B, O, env, d, r, h1, q⟩ := h
  obtain ⟨x, hx, h1⟩ := bnd h1
  obtain ⟨y, hy, h1⟩ := bnd h1
  refine ⟨B, O, env, x, r, hx, fun v H1 s1 r1 => ⟨B, O, env, y, r.heap s1, hy, fun w H2 s2 r2 => ?_⟩⟩
  exact ⟨_, x, y, d, ((r.heap s1).heap s2).fr, r1.same s2, r2, h1, fun v' H' s' rv => q v' H' ((s1.trans s2).trans s') rv⟩
theorem se_op2 {f : D → D → Option D} {op : Operator} {a b : Expr} {da db : Ex} {pos : Pos} (ho : OpR X (binaryOp op) (rD X.mg f)) (ha : SE X τ a da) (hb : SE X τ b db) : SE X τ (.BinOp a op b pos) (op2 f da db) := (pe_op ho ha hb).weak fun _ _ _ h => tOp_of h
theorem sa_nil : SA X τ [] aN := pa_nil.weak fun σ H Q ⟨B, O, env, ds, r, h1, q⟩ => by cases h1; exact q _ H (Same.refl H) .nil
theorem sa_cons {e : Expr} {es : List Expr} {de : Ex} {da : Ax} (he : SE X τ e de) (ha : SA X τ es da) (hs : starEach (e :: es) X.env = (false, eval e X.env) :: starEach es X.env := by rfl) : SA X τ (e :: es) (aC de da) := (pa_cons he ha hs).weak fun σ H Q ⟨B, O, env, ds, r, h1, q⟩ => by
  obtain ⟨x, hx, h1⟩ := bnd h1
  obtain ⟨xs, hxs, h1⟩ := bnd h1
  cases h1
  exact ⟨B, O, env, x, r, hx, fun v H1 s1 r1 => ⟨B, O, env, xs, r.heap s1, hxs, fun vs H2 s2 r2 => q _ H2 (s1.trans s2) (.cons (r1.same s2) r2)⟩⟩
theorem same_upd {H : Hp} {p : Addr} {o : HO} (h : H p = none) : Same H (upd H p o) := Same.of fun b u e => by rw [upd_ne (ne_of_none e h)]; exact e
theorem szL_ok {n : Nat} (h : n ≤ szL) : n ≤ sizeLine := by rw [sizeLine_eq]; exact h
theorem se_tup {es : List Expr} {da : Ax} {x1} {pos : Pos} (ha : SA X τ es da) : SE X τ (.Tuple es x1 pos) (tupE da) := (pe_tup ha).weak fun σ H Q ⟨B, O, env, d, r, h1, q⟩ => by
  obtain ⟨xs, hx, h2⟩ := bnd h1
  split at h2
  · rename_i hz
    cases h2
    refine ⟨B, O, env, xs, r, hx, fun vs H1 s1 r1 => ⟨by rw [r1.len]; exact szL_ok hz, fun p hp => ?_⟩⟩
    exact q _ _ (s1.trans (same_upd hp)) (.tup upd_same (r1.same (same_upd hp)))
  · cases h2
theorem sn_lst {es : List Expr} {da : Ax} {pos : Pos} (ha : SA X false es da) : SN X (.List es pos) (lstE da) := (pe_lst ha).weak fun σ H Q ⟨B, O, env, d, r, h1, q⟩ => by
  obtain ⟨xs, hx, h2⟩ := bnd h1
  split at h2
  · rename_i hz
    cases h2
    refine ⟨B, O, env, xs, r, hx, fun vs H1 s1 r1 => ⟨by rw [r1.len]; exact szL_ok hz, fun p hp => ?_⟩⟩
    exact q p _ (s1.trans (same_upd hp)) (Same.free s1 hp) (.lst upd_same ((Reps.ne hp r1).same (same_upd hp)))
  · cases h2
theorem SN.se {e : Expr} {de : Ex} (h : SN X e de) : SE X τ e de := h.weak fun σ H Q ⟨B, O, env, d, r, h1, q⟩ => ⟨B, O, env, d, r, h1, fun p H' s hp o => q _ H' s (o.rep (fun _ z => Lv.mono z.1) (r.fr p hp))⟩
end
end PV

namespace PV
variable [LT] [RT]
open PySem PySem.Spec PyProof.Rows L2
section
variable {K : PySem.W.Frag} {mg : Str → Option Value} {B : Bs} {H H' H1 H2 : Hp} {O O' O1 O2 : Nat → Option Addr} {σ : L2.St} {env : DEnv} {τ : Bool} {i : Nat} {v : V} {d : D} {p : Addr}
def offO (O : Nat → Option Addr) (i : Nat) : Nat → Option Addr := fun j => if j = i then none else O j
def putO (O : Nat → Option Addr) (i : Nat) (p : Addr) : Nat → Option Addr := fun j => if j = i then some p else O j
theorem offO_some {j : Nat} {p : Addr} (h : offO O i j = some p) : j ≠ i ∧ O j = some p := by
  unfold offO at h
  split at h
  · cases h
  · rename_i hj; exact ⟨hj, h⟩
theorem bd_off (h : ∃ n, ∀ j, n ≤ j → O j = none) : ∃ n, ∀ j, n ≤ j → offO O i j = none := by
  obtain ⟨n, h⟩ := h
  refine ⟨n, fun j hj => ?_⟩
  unfold offO
  split
  · rfl
  · exact h j hj
theorem bd_put (h : ∃ n, ∀ j, n ≤ j → O j = none) : ∃ n, ∀ j, n ≤ j → putO O i p j = none := by
  obtain ⟨n, h⟩ := h
  refine ⟨n + i + 1, fun j hj => ?_⟩
  unfold putO
  rw [if_neg (by omega)]
  exact h j (by omega)
theorem Lv.off {a : Addr} (h : Lv B O τ a) : Lv B (offO O i) τ a := ⟨h.1, h.2.elim .inl fun z => .inr fun j e => z j (offO_some e).2⟩
theorem keepRefl {A : Addr → Prop} {H : Hp} : Keep A H H := Same.keep (Same.refl H)
theorem get_set {α : Type} {l : List α} {i j : Nat} {x y : α} (h : (l.set i x)[j]? = some y) : (j = i ∧ y = x ∧ i < l.length) ∨ (j ≠ i ∧ l[j]? = some y) := by
  by_cases e : j = i
  · subst e
    by_cases hl : j < l.length
    · rw [List.getElem?_set_self hl] at h; cases h; exact .inl ⟨rfl, rfl, hl⟩
    · rw [List.getElem?_eq_none (by simpa using hl)] at h; cases h
  · rw [List.getElem?_set_ne (Ne.symm e)] at h
    exact .inr ⟨e, h⟩
theorem ERel.set (r : ERel K mg B O σ H env) (hv : Rep mg (Lv B O false) H v d) : ERel K mg B (offO O i) (σ.set i (some v)) H (env.set i (.val d)) := by
  have up : ∀ a, Lv B O false a → Lv B (offO O i) false a := fun a h => h.off
  refine ⟨by simp [r.len], r.same, fun j d' e => ?_, fun j d' e => ?_, fun j d' e => ?_, fun j k p a b => r.inj j k p (offO_some a).2 (offO_some b).2, fun j p a => r.trk j p (offO_some a).2, fun j p a => r.fr0 j p (offO_some a).2, bd_off r.bd, fun j p a hj => by
    obtain ⟨h1, h2⟩ := offO_some a
    rw [List.getElem?_set_ne (Ne.symm h1)]
    exact r.nst j p h2 (by simpa using hj)⟩
  · rcases get_set e with ⟨rfl, e2, hl⟩ | ⟨hj, e2⟩
    · cases e2
      exact ⟨v, List.getElem?_set_self (by rw [← r.len]; exact hl), hv.mono up keepRefl⟩
    · obtain ⟨w, h1, h2⟩ := r.vals j d' e2
      exact ⟨w, by rw [List.getElem?_set_ne (Ne.symm hj)]; exact h1, h2.mono up keepRefl⟩
  · rcases get_set e with ⟨rfl, e2, hl⟩ | ⟨hj, e2⟩
    · cases e2
    · obtain ⟨p, h1, h2, h3, h4⟩ := r.owns j d' e2
      exact ⟨p, by unfold offO; rw [if_neg hj]; exact h1, by rw [List.getElem?_set_ne (Ne.symm hj)]; exact h2, h3, h4.mono up keepRefl fun _ z => z⟩
  · rcases get_set e with ⟨rfl, e2, hl⟩ | ⟨hj, e2⟩
    · cases e2
    · obtain ⟨h1, h2, h4⟩ := r.slfs j d' e2
      exact ⟨by unfold offO; rw [if_neg hj]; exact h1, by rw [List.getElem?_set_ne (Ne.symm hj)]; exact h2, h4.mono up keepRefl fun _ z => z⟩
theorem Fm.off (a : Fm O H O' H') : Fm O H (offO O' i) H' := ⟨a.keep, a.tab, a.dom, fun j b e => a.sub j b (offO_some e).2⟩
theorem ERel.setOwn (r : ERel K mg B O σ H env) (s : Same H H') (hp : H p = none) (ho : Own mg (fun a => Lv B O false a ∧ a ≠ p) H' p d) :
    ERel K mg B (putO O i p) (σ.set i (some (.ref p))) H' (env.set i (.own d)) ∧ Fm O H (putO O i p) H' := by
  have nO : ∀ j, O j ≠ some p := fun j e => by
    obtain ⟨o, z, _⟩ := r.trk j p e
    rw [hp] at z; cases z
  have up : ∀ a, (Lv B O false a ∧ a ≠ p) → Lv B (putO O i p) false a := fun a h => ⟨h.1.1, .inr fun j e => by
    unfold putO at e
    split at e
    · exact h.2 (Option.some.inj e).symm
    · exact (h.1.2.elim (fun z => Bool.noConfusion z) fun z => z) j e⟩
  have h0 : B.H0 p = none := Same.free r.same hp
  refine ⟨⟨by simp [r.len], r.same.trans s, fun j d' e => ?_, fun j d' e => ?_, fun j d' e => ?_, fun j k q a b => ?_, fun j q a => ?_, fun j q a => ?_, bd_put r.bd, fun j q a hj => ?_⟩, ⟨fun b o _ e _ => s b o e, s.tab, s.dom, fun j b e => ?_⟩⟩
  · rcases get_set e with ⟨rfl, e2, hl⟩ | ⟨hj, e2⟩
    · cases e2
    · obtain ⟨w, h1, h2⟩ := r.vals j d' e2
      exact ⟨w, by rw [List.getElem?_set_ne (Ne.symm hj)]; exact h1, ((Rep.ne hp h2).mono up keepRefl).same s⟩
  · rcases get_set e with ⟨rfl, e2, hl⟩ | ⟨hj, e2⟩
    · cases e2
      exact ⟨p, by unfold putO; rw [if_pos rfl], List.getElem?_set_self (by rw [← r.len]; exact hl), h0, ho.mono up keepRefl fun _ z => z⟩
    · obtain ⟨q, h1, h2, h3, h4⟩ := r.owns j d' e2
      refine ⟨q, by unfold putO; rw [if_neg hj]; exact h1, by rw [List.getElem?_set_ne (Ne.symm hj)]; exact h2, h3, ?_⟩
      cases h4 with
      | lst h r => exact .lst (s _ _ h) (((Reps.ne hp r).mono up keepRefl).same s)
      | dicK h r => exact .dicK (s _ _ h) (((Reps.ne hp r).mono up keepRefl).same s)
      | dicT h r => exact .dicT (s _ _ h) (((Reps.ne hp r).mono up keepRefl).same s)
      | ins h c r => exact .ins (s _ _ h) c (((Reps.ne hp r).mono up keepRefl).same s)
  · rcases get_set e with ⟨rfl, e2, hl⟩ | ⟨hj, e2⟩
    · cases e2
    · obtain ⟨h1, h2, h4⟩ := r.slfs j d' e2
      refine ⟨by unfold putO; rw [if_neg hj]; exact h1, by rw [List.getElem?_set_ne (Ne.symm hj)]; exact h2, ?_⟩
      cases h4 with
      | lst h r => exact .lst (s _ _ h) (((Reps.ne hp r).mono up keepRefl).same s)
      | dicK h r => exact .dicK (s _ _ h) (((Reps.ne hp r).mono up keepRefl).same s)
      | dicT h r => exact .dicT (s _ _ h) (((Reps.ne hp r).mono up keepRefl).same s)
      | ins h c r => exact .ins (s _ _ h) c (((Reps.ne hp r).mono up keepRefl).same s)
  · unfold putO at a b
    split at a <;> split at b
    · rename_i e1 e2; exact e1.trans e2.symm
    · cases a; exact absurd b (nO _)
    · cases b; exact absurd a (nO _)
    · exact r.inj j k q a b
  · unfold putO at a
    split at a
    · cases a
      cases ho with
      | lst h r => exact ⟨_, h, trivial⟩
      | dicK h r => exact ⟨_, h, trivial⟩
      | dicT h r => exact ⟨_, h, trivial⟩
      | ins h c r => exact ⟨_, h, trivial⟩
    · obtain ⟨o, z, w⟩ := r.trk j q a
      haveI := Wr.nt w
      exact ⟨o, s _ _ z, w⟩
  · unfold putO at a
    split at a
    · cases a; exact h0
    · exact r.fr0 j q a
  · unfold putO at a
    by_cases ej : j = i
    · subst ej
      exact ⟨d, .inl (List.getElem?_set_self (by simpa using hj))⟩
    · rw [if_neg ej] at a
      rw [List.getElem?_set_ne (Ne.symm ej)]
      exact r.nst j q a (by simpa using hj)
  · unfold putO at e
    split at e
    · cases e; exact .inr hp
    · exact .inl ⟨j, e⟩
theorem tabS_upd {H : Hp} {p P : Addr} {q : Str} {o o' : HO} (hp : H p = some o) (w : Wr o) (t : LamX.TabS H P q) : LamX.TabS (upd H p o') P q := by
  obtain ⟨ps, h1, h2, h3⟩ := t
  have ne : P ≠ p := fun e => by subst e; rw [hp] at h1; cases h1; exact w
  refine ⟨ps, by rw [upd_ne ne]; exact h1, h2, fun pos cv hc => ?_⟩
  obtain ⟨c, e1, e2⟩ := h3 pos cv hc
  have nc : c ≠ p := fun e => by subst e; rw [hp] at e2; cases e2; exact w _ _ rfl
  exact ⟨c, e1, by rw [upd_ne nc]; exact e2⟩
theorem dom_upd {H : Hp} {p b : Addr} {o' : HO} (h : upd H p o' b = Option.none) : H b = Option.none := by
  by_cases e : b = p
  · subst e; rw [upd_same] at h; cases h
  · rw [upd_ne e] at h; exact h
theorem Same.put {H H' : Hp} {p : Addr} {o o' : HO} (s : Same H H') (h0 : H p = Option.none) (hp : H' p = some o) (w : Wr o) : Same H (upd H' p o') :=
  ⟨fun b ob z _ => by rw [upd_ne (ne_of_none z h0)]; exact s b ob z, fun t p2 hp2 => tabS_upd hp w (s.tab t p2 hp2), fun b h => s.dom b (dom_upd h)⟩
theorem keep_write {o' : HO} (r : ERel K mg B O σ H env) (hO : O i = some p) : Keep (Lv B O false) H (upd H p o') := by
  obtain ⟨o, hp, w⟩ := r.trk i p hO
  have ne : ∀ a, Lv B O false a → a ≠ p := fun a h e => by
    subst e
    exact h.2.elim (fun z => Bool.noConfusion z) fun z => z i hO
  refine ⟨fun a u ha _ h => ?_, fun a C dx fs ha h => by rw [upd_ne (ne a ha)]; exact h, fun a xs ha h => by rw [upd_ne (ne a ha)]; exact h, fun a xs h => ?_, fun a ob xs h => ?_⟩
  · rcases h with h | ⟨ob, h⟩
    · exact .inl (by rw [upd_ne (ne a ha)]; exact h)
    · exact .inr ⟨ob, by rw [upd_ne (ne a ha)]; exact h⟩
  · have nt : a ≠ p := fun e => by
      subst e
      rw [hp] at h; cases h; exact w
    rw [upd_ne nt]; exact h
  · have nt : a ≠ p := fun e => by
      subst e
      rw [hp] at h; cases h; exact w
    rw [upd_ne nt]; exact h
theorem ERel.write {o' : HO} {d' : D} (r : ERel K mg B O σ H env) (hO : O i = some p) (hs : σ[i]? = some (some (.ref p))) (ho : Own mg (Lv B O false) (upd H p o') p d') (hw : Wr o') :
    ERel K mg B O σ (upd H p o') (env.set i (.own d')) ∧ Fm O H O (upd H p o') := by
  have k : Keep (Lv B O false) H (upd H p o') := keep_write r hO
  have h0 := r.fr0 i p hO
  obtain ⟨o0, hp0, w0⟩ := r.trk i p hO
  refine ⟨⟨by simp [r.len], ⟨fun b o e _ => ?_, fun t p2 hp2 => tabS_upd hp0 w0 (r.same.tab t p2 hp2), fun b h => r.same.dom b (dom_upd h)⟩, fun j d2 e => ?_, fun j d2 e => ?_, fun j d2 e => ?_, r.inj, fun j q a => ?_, r.fr0, r.bd, fun j q a hj => by
    by_cases ej : j = i
    · subst ej
      exact ⟨d', .inl (List.getElem?_set_self (by simpa using hj))⟩
    · rw [List.getElem?_set_ne (Ne.symm ej)]
      exact r.nst j q a (by simpa using hj)⟩, ⟨fun b o hb e _ => by rw [upd_ne (fun z => hb i (by rw [z]; exact hO))]; exact e, fun t p2 hp2 => tabS_upd hp0 w0 (t p2 hp2), fun b h => dom_upd h, fun j b e => .inl ⟨j, e⟩⟩⟩
  · rw [upd_ne (ne_of_none e h0)]; exact r.same b o e
  · rcases get_set e with ⟨rfl, e2, hl⟩ | ⟨hj, e2⟩
    · cases e2
    · obtain ⟨w, h1, h2⟩ := r.vals j d2 e2
      exact ⟨w, h1, h2.mono (fun _ z => z) k⟩
  · rcases get_set e with ⟨rfl, e2, hl⟩ | ⟨hj, e2⟩
    · cases e2
      exact ⟨p, hO, hs, h0, ho⟩
    · obtain ⟨q, h1, h2, h3, h4⟩ := r.owns j d2 e2
      have nq : q ≠ p := fun z => hj (r.inj j i p (z ▸ h1) hO)
      exact ⟨q, h1, h2, h3, h4.mono (fun _ z => z) k fun o z _ => by rw [upd_ne nq]; exact z⟩
  · rcases get_set e with ⟨rfl, e2, hl⟩ | ⟨hj, e2⟩
    · cases e2
    · obtain ⟨h1, h2, h4⟩ := r.slfs j d2 e2
      have nq : B.sf ≠ p := fun z => hj (r.inj j i p (z ▸ h1) hO)
      exact ⟨h1, h2, h4.mono (fun _ z => z) k fun o z _ => by rw [upd_ne nq]; exact z⟩
  · by_cases e : q = p
    · subst e; exact ⟨o', upd_same, hw⟩
    · obtain ⟨o, z, w⟩ := r.trk j q a
      exact ⟨o, by rw [upd_ne e]; exact z, w⟩
theorem PostS.trans {D : Ends} {r : DRes} (f : Fm O H O1 H1) (h : PostS K mg B O H D r) : PostS K mg B O1 H1 D r := by
  cases r with
  | nx e => exact fun σ' H' O' q g => h σ' H' O' q (f.trans g)
  | bk e => exact fun σ' H' O' q g => h σ' H' O' q (f.trans g)
  | ct e => exact fun σ' H' O' q g => h σ' H' O' q (f.trans g)
  | ret d => exact h
mutual
def tgR (K : PySem.W.Frag) : Tg → TG
  | .n i => gName i
  | .t l => gTup K l.length (tgRs K l)
def tgRs (K : PySem.W.Frag) : List Tg → TGs
  | [] => gNil
  | g :: gs => gCons (tgR K g) (tgRs K gs)
end
mutual
theorem gDs_len : ∀ {l : List Tg} {ds : List D} {e e' : DEnv}, gDs l ds e = some e' → ds.length = l.length
  | [], [], _, _, _ => rfl
  | [], _ :: _, _, _, h => by simp [gDs] at h
  | g :: gs, [], _, _, h => by simp [gDs] at h
  | g :: gs, d :: ds, _, _, h => by
    simp only [gDs] at h
    obtain ⟨e1, _, h2⟩ := bnd h
    exact congrArg (· + 1) (gDs_len h2)
end
def Only1 (σ σ' : L2.St) (ws : List Nat) : Prop := ∀ vs : List Nat, (∀ i ∈ ws, i ∈ vs) → wipe σ' vs = wipe σ vs
theorem wipe_set {σ : L2.St} {x : Option V} : ∀ {vs : List Nat} {i : Nat}, i ∈ vs → wipe (σ.set i x) vs = wipe σ vs
  | w :: ws, i, h => by
    unfold wipe
    by_cases e : i ∈ ws
    · rw [wipe_set e]
    · have hi : i = w := by simpa [e] using h
      subst hi
      clear h
      have : ∀ (us : List Nat), i ∉ us → wipe (σ.set i x) us = (wipe σ us).set i x := by
        intro us
        induction us with
        | nil => intro _; rfl
        | cons u us ih =>
          intro hn
          have h1 : i ≠ u := fun z => hn (by simp [z])
          have h2 : i ∉ us := fun z => hn (by simp [z])
          unfold wipe
          rw [ih h2, List.set_comm _ _ h1]
      rw [this ws e]
      rw [List.set_set]
mutual
theorem tgR_ok : ∀ (g : Tg) {O : Nat → Option Addr} {σ : L2.St} {env env' : DEnv} {v : V} {d : D} {H : Hp} {Q : L2.St → Hp → Prop}, ERel K mg B O σ H env → Rep mg (Lv B O false) H v d → gD g d env = some env' →
    (∀ σ' O', ERel K mg B O' σ' H env' → Fm O H O' H → Only1 σ σ' g.slots → Q σ' H) → tgR K g v σ H Q
  | .n i, O, σ, env, env', v, d, H, Q, r, rv, e, q => by
    simp only [gD, Option.some.injEq] at e
    subst e
    exact q _ _ (ERel.set r rv) (Fm.of_same (Same.refl H)).off fun vs hv => wipe_set (hv i (by simp [Tg.slots]))
  | .t l, O, σ, env, env', v, d, H, Q, r, rv, e, q => by
    cases d <;> simp only [gD, reduceCtorEq] at e
    rename_i xs
    cases rv with
    | tup hs rs =>
      refine ⟨_, _, rfl, .inl (.inl hs), by rw [rs.len]; exact gDs_len e, ?_⟩
      exact tgRs_ok l r rs e q
theorem tgRs_ok : ∀ (l : List Tg) {O : Nat → Option Addr} {σ : L2.St} {env env' : DEnv} {vs : List V} {ds : List D} {H : Hp} {Q : L2.St → Hp → Prop}, ERel K mg B O σ H env → Reps mg (Lv B O false) H vs ds → gDs l ds env = some env' →
    (∀ σ' O', ERel K mg B O' σ' H env' → Fm O H O' H → Only1 σ σ' (Tg.slotss l) → Q σ' H) → tgRs K l vs σ H Q
  | [], O, σ, env, env', vs, ds, H, Q, r, rs, e, q => by
    cases ds with
    | nil =>
      simp only [gDs, Option.some.injEq] at e
      subst e
      cases rs
      exact ⟨rfl, q _ _ r (Fm.of_same (Same.refl H)) fun _ _ => rfl⟩
    | cons _ _ => simp [gDs] at e
  | g :: gs, O, σ, env, env', vs, ds, H, Q, r, rs, e, q => by
    cases ds with
    | nil => simp [gDs] at e
    | cons d ds =>
      simp only [gDs] at e
      obtain ⟨e1, h1, h2⟩ := bnd e
      cases rs with
      | cons rv rs =>
        refine ⟨_, _, rfl, tgR_ok g r rv h1 fun σ1 O1 r1 f1 w1 => ?_⟩
        have keep : ∀ a, Lv B O false a → (∃ o, H a = some o) → Lv B O1 false a := fun a h ho => ⟨h.1, .inr fun j z => by
          rcases f1.sub j a z with ⟨i, q⟩ | q
          · exact h.2.elim (fun z => Bool.noConfusion z) (fun z => z i q)
          · obtain ⟨o, ho⟩ := ho; rw [q] at ho; cases ho⟩
        refine tgRs_ok gs r1 (Reps.keepT keep rs) h2 fun σ2 O2 r2 f2 w2 => q _ _ r2 (f1.trans f2) fun vs hv => ?_
        simp only [Tg.slotss, List.mem_append] at hv
        rw [w2 vs fun i hi => hv i (.inr hi), w1 vs fun i hi => hv i (.inl hi)]
end
end
section
variable {X : Cx} {τ : Bool}
theorem ss_nil : SSs X [] skip := pss_nil.weak fun D σ H ⟨B, O, env, r, rl, h1, q⟩ => by
  cases h1
  exact q σ H O rl (Fm.of_same (Same.refl H))
theorem seq_of {K : PySem.W.Frag} {mg : Str → Option Value} {D : Ends} {σ : L2.St} {H : Hp} {a b : Sx} (h : tS K mg (sq a b) D σ H) : tSeq (tS K mg a) (tS K mg b) D σ H := by
  obtain ⟨B, O, env, r, rl, h1, q⟩ := h
  obtain ⟨ra, ha, h2⟩ := bnd h1
  refine ⟨B, O, env, ra, rl, ha, ?_⟩
  cases ra with
  | nx e' => exact fun σ' H' O' rl' f => ⟨B, O', e', r, rl', h2, q.trans f⟩
  | bk e' => cases h2; exact q
  | ct e' => cases h2; exact q
  | ret d => cases h2; exact q
theorem ss_cons {st : Stmt} {rest : List Stmt} {a b : Sx} (h1 : SS X st a) (h2 : SSs X rest b) : SSs X (st :: rest) (sq a b) := (pss_cons h1 h2).weak fun _ _ _ h => seq_of h
theorem ss_one {st : Stmt} {a : Sx} (h1 : SS X st a) : SSs X [st] a := pss_one h1
theorem s_ret {e : Expr} {de : Ex} {pos : Pos} (he : SE X true e de) (hn : RT.nw = false := by rfl) : SS X (.Return (some e) pos) (rt de) := (ps_ret he).weak fun D σ H ⟨B, O, env, r, rl, h1, q⟩ => by
  obtain ⟨d, hd, h2⟩ := bnd h1
  cases h2
  exact ⟨B, O, env, d, rl, hd, fun v H' s rv => q v H' (rl.same.trans s) (retP_of hn (rv.mono (fun _ z => ⟨z.1, .inl rfl⟩) keepRefl))⟩
theorem s_if {c : Expr} {a b : List Stmt} {t : Tx} {da db : Sx} {pos : Pos} (hc : ST X c t) (ha : SSs X a da) (hb : SSs X b db) : SS X (.If c a b pos) (ifS t da db) := (ps_if hc ha hb).weak fun D σ H ⟨B, O, env, r, rl, h1, q⟩ => by
  obtain ⟨d, hd, h2⟩ := bnd h1
  refine ⟨B, O, env, d, rl, hd, fun H' s => ?_⟩
  cases d with
  | true => exact iteT ⟨B, O, env, r, rl.heap s, h2, q.trans (Fm.of_same s)⟩
  | false => exact iteF ⟨B, O, env, r, rl.heap s, h2, q.trans (Fm.of_same s)⟩
def PT1 (X : Cx) (tg : Expr) (g : Tg) : Prop := PG X tg (tgR X.K g)
def PTs1 (X : Cx) (tg : List Expr) (g : List Tg) : Prop := PGs X tg (tgRs X.K g)
theorem g_n (i : Nat) {x : Str} {pos : Pos} (hN : X.N.Nodup) (hi : X.N[i]? = some x := by rfl) (hx : Loc X.env.scope x := by first | exact Or.inl rfl | exact Or.inr rfl) (hf : X.fn x = true ∨ X.env.scope.names.lookup x = some .local := by first | exact .inl rfl | exact .inr rfl | assumption) : PT1 X (.Name x pos) (.n i) := pg_name hN hi hx hf
theorem g_t {es : List Expr} {k : Nat} {l : List Tg} {pos : Pos} (hc : X.calm = true) (h : PTs1 X es l)
    (hn : (assignEach es X.env).length = l.length := by rfl) (hst : (assignEach es X.env).findIdx? (·.1) = none := by rfl) : PT1 X (.Tuple es k pos) (.t l) := pg_tup hc h hn hst
theorem gs_nil : PTs1 X [] [] := pgs_nil
theorem gs_cons {e : Expr} {es : List Expr} {g : Tg} {l : List Tg} (h1 : PT1 X e g) (h2 : PTs1 X es l)
    (hs : (assignEach (e :: es) X.env).map (·.2) = assign e X.env :: (assignEach es X.env).map (·.2) := by rfl) : PTs1 X (e :: es) (g :: l) := pgs_cons h1 h2 hs
theorem tG_of {K : PySem.W.Frag} {mg : Str → Option Value} {g : Tg} {v : V} {σ : L2.St} {H : Hp} {Q : L2.St → Hp → Prop} (h : tG K mg (gD g) v σ H Q) : tgR K g v σ H Q := by
  obtain ⟨B, O, env, env', d, rl, rv, e, q⟩ := h
  exact tgR_ok g rl rv e fun σ' O' r' f' _ => q σ' H O' r' f'
theorem PT1.sg {tg : Expr} {g : Tg} (h : PT1 X tg g) : SG X tg (gD g) := PG.weak h fun v σ H Q q => tG_of q
theorem s_asg {tg e : Expr} {de : Ex} {g : Tg} {pos : Pos} (he : SE X false e de) (hg : PT1 X tg g) (hs : swapsWithSole [tg] e pos.line X.env = pure false := by rfl) (hw : swappedStores [tg] e X.env = pure none := by rfl)
    (h1 : (assignEach [tg] X.env).map (·.2) = [assign tg X.env] := by rfl) : SS X (.Assign [tg] e pos) (asg g de) := (ps_asg he hg hs hw h1).weak fun D σ H ⟨B, O, env, r, rl, h1, q⟩ => by
  obtain ⟨d, hd, h2⟩ := bnd h1
  obtain ⟨e', he', h3⟩ := bnd h2
  cases h3
  exact ⟨B, O, env, d, rl, hd, fun v H1 s rv => tgR_ok g (rl.heap s) rv he' fun σ' O' r' f' _ => q σ' H1 O' r' ((Fm.of_same s).trans f')⟩
theorem s_set {i : Nat} {x : Str} {e : Expr} {de : Ex} {pos pos' : Pos} (hN : X.N.Nodup) (he : SE X false e de) (hi : X.N[i]? = some x := by rfl) (hx : Loc X.env.scope x := by first | exact Or.inl rfl | exact Or.inr rfl) (hs : swapsWith e (some (.Name x pos')) pos.line X.env = pure false := by rfl) (hf : X.fn x = true ∨ X.env.scope.names.lookup x = some .local := by first | exact .inl rfl | exact .inr rfl | assumption) :
    SS X (.Assign [.Name x pos'] e pos) (setE i de) := (ps_set hN hi hx he hs hf).weak fun D σ H ⟨B, O, env, r, rl, h1, q⟩ => by
  obtain ⟨d, hd, h2⟩ := bnd h1
  cases h2
  exact ⟨B, O, env, d, rl, hd, fun v H1 s rv => q _ H1 _ (ERel.set (rl.heap s) rv) ((Fm.of_same s).trans (Fm.of_same (Same.refl H1)).off)⟩
theorem s_new {i : Nat} {x : Str} {e : Expr} {de : Ex} {pos pos' : Pos} (hN : X.N.Nodup) (he : SN X e de) (hi : X.N[i]? = some x := by rfl) (hx : Loc X.env.scope x := by first | exact Or.inl rfl | exact Or.inr rfl) (hs : swapsWith e (some (.Name x pos')) pos.line X.env = pure false := by rfl) (hf : X.fn x = true ∨ X.env.scope.names.lookup x = some .local := by first | exact .inl rfl | exact .inr rfl | assumption) :
    SS X (.Assign [.Name x pos'] e pos) (newE i de) := (ps_set hN hi hx he hs hf).weak fun D σ H ⟨B, O, env, r, rl, h1, q⟩ => by
  obtain ⟨d, hd, h2⟩ := bnd h1
  cases h2
  exact ⟨B, O, env, d, rl, hd, fun p H1 s hp o => let z := ERel.setOwn (i := i) rl s hp o; q _ H1 _ z.1 z.2⟩
theorem ss_frz (j : Nat) {sts : List Stmt} {b : Sx} (h : SSs X sts b) : SSs X sts (frz j b) := h.weak fun D σ H ⟨B, O, env, r, rl, h1, q⟩ => by
  unfold frz at h1
  split at h1
  · rename_i d e
    obtain ⟨p, h2, h3, h4, h5⟩ := rl.owns j d e
    have hl : j < env.length := (List.getElem?_eq_some_iff.mp e).1
    have rv : Rep X.mg (Lv B (offO O j) false) H (.ref p) d := h5.rep (fun _ z => z.off) ⟨.inr h4, .inr fun k z => (offO_some z).1 (rl.inj k j p (offO_some z).2 h2)⟩
    have r' : ERel X.K X.mg B (offO O j) σ H (env.set j (.val d)) := by
      have up : ∀ a, Lv B O false a → Lv B (offO O j) false a := fun a h => h.off
      refine ⟨by simp [rl.len], rl.same, fun k d' e => ?_, fun k d' e => ?_, fun k d' e => ?_, fun k l p a b => rl.inj k l p (offO_some a).2 (offO_some b).2, fun k p a => rl.trk k p (offO_some a).2, fun k p a => rl.fr0 k p (offO_some a).2, bd_off rl.bd, fun k p a hk => by
        obtain ⟨h1, h2⟩ := offO_some a
        rw [List.getElem?_set_ne (Ne.symm h1)]
        exact rl.nst k p h2 (by simpa using hk)⟩
      · rcases get_set e with ⟨rfl, e2, hl⟩ | ⟨hj, e2⟩
        · cases e2
          exact ⟨_, h3, rv⟩
        · obtain ⟨w, h1, h2⟩ := rl.vals k d' e2
          exact ⟨w, h1, h2.mono up keepRefl⟩
      · rcases get_set e with ⟨rfl, e2, hl⟩ | ⟨hj, e2⟩
        · cases e2
        · obtain ⟨p, h1, h2, h3, h4⟩ := rl.owns k d' e2
          exact ⟨p, by unfold offO; rw [if_neg hj]; exact h1, h2, h3, h4.mono up keepRefl fun _ z => z⟩
      · rcases get_set e with ⟨rfl, e2, hl⟩ | ⟨hj, e2⟩
        · cases e2
        · obtain ⟨h1, h2, h4⟩ := rl.slfs k d' e2
          exact ⟨by unfold offO; rw [if_neg hj]; exact h1, h2, h4.mono up keepRefl fun _ z => z⟩
    exact ⟨B, offO O j, _, r, r', h1, q.trans (Fm.of_same (Same.refl H)).off⟩
  · cases h1
theorem fm_keep {K : PySem.W.Frag} {mg : Str → Option Value} {B : Bs} {H H' : Hp} {O O' : Nat → Option Addr} {σ : L2.St} {env : DEnv} (rl : ERel K mg B O σ H env) (f : Fm O H O' H') : Keep (Lv B O false) H H' := by
  have out : ∀ a, Lv B O false a → ∀ j, O j ≠ some a := fun a h => h.2.elim (fun z => Bool.noConfusion z) fun z => z
  refine ⟨fun a u ha _ h => ?_, fun a C dx fs ha h => f.keep a _ (out a ha) h, fun a xs ha h => f.keep a _ (out a ha) h, fun a xs h => ?_, fun a ob xs h => ?_⟩
  · rcases h with h | ⟨o, h⟩
    · exact .inl (f.keep a _ (out a ha) h)
    · exact .inr ⟨o, f.keep a _ (out a ha) h⟩
  · have nt : ∀ j, O j ≠ some a := fun j e => by
      obtain ⟨o, z, w⟩ := rl.trk j a e
      rw [h] at z; cases z; exact w
    exact f.keep a _ nt h
  · have nt : ∀ j, O j ≠ some a := fun j e => by
      obtain ⟨o, z, w⟩ := rl.trk j a e
      rw [h] at z; cases z; exact w
    exact f.keep a _ nt h
theorem lv_sub {B : Bs} {H H' : Hp} {O O' : Nat → Option Addr} {a : Addr} (f : Fm O H O' H') (h : Lv B O false a) (ho : ∃ o, H a = some o) : Lv B O' false a := ⟨h.1, .inr fun j z => by
  rcases f.sub j a z with ⟨i, q⟩ | q
  · exact h.2.elim (fun z => Bool.noConfusion z) (fun z => z i q)
  · obtain ⟨o, ho⟩ := ho; rw [q] at ho; cases ho⟩
theorem s_for {tg iter : Expr} {body : List Stmt} {di : Ax} {g : Tg} {db : Sx} {pos : Pos} (hp : PassesOwn (model X.prog X.w) X.A X.env X.xe) (hc : X.calm = true) (hi : SI X tg iter di) (hg : PT1 X tg g) (hb : SSs X body db)
    (hs : ∀ x, foldedSetIterable iter X.env x = pure x := by intro _; rfl) : SS X (.For tg iter body [] pos) (forE di g db) := (ps_for hp hc hi hg hb hs).weak fun D σ H ⟨B, O, env, r, rl, h1, q⟩ => by
  obtain ⟨ds, hd, h2⟩ := bnd h1
  refine ⟨B, O, env, ds, rl, hd, fun J H1 s1 wk => ?_⟩
  have rl1 := rl.heap s1
  have q1 := q.trans (Fm.of_same s1)
  refine ⟨fun i m σ' H' => m = ds.length - i ∧ i ≤ ds.length ∧ ∃ O' env', ERel X.K X.mg B O' σ' H' env' ∧ Fm O H1 O' H' ∧ loop (gD g) db (ds.drop i) env' = some r, ⟨ds.length, by simp, Nat.zero_le _, O, env, rl1, Fm.of_same (Same.refl H1), by simpa using h2⟩, ?_⟩
  rintro i m σ' H' ⟨rfl, hi', O', env', rl', f', hl⟩
  have kp : Keep (fun a => Lv B O false a ∧ ∃ o, H1 a = some o) H1 H' := let k := fm_keep rl1 f'; ⟨fun a u ha _ h => k.rd a u ha.1 h, fun a C dx fs ha h => k.ins a C dx fs ha.1 h, fun a xs ha h => k.lst a xs ha.1 h, k.tup, k.fz⟩
  by_cases hlt : i < ds.length
  · have hx : ds[i]? = some ds[i] := List.getElem?_eq_getElem hlt
    obtain ⟨go, yl⟩ := (wk i H' kp).1 _ hx
    rw [List.drop_eq_getElem_cons hlt] at hl
    unfold loop at hl
    obtain ⟨e1, he1, hl⟩ := bnd hl
    obtain ⟨r1, hr1, hl⟩ := bnd hl
    refine .inr ⟨go, fun σ'' H'' => ∃ O'' env'', ERel X.K X.mg B O'' σ'' H'' env'' ∧ Fm O H1 O'' H'' ∧ loop (gD g) db (ds.drop (i + 1)) env'' = some r, fun σ'' H'' ⟨O'', env'', z⟩ => ⟨ds.length - (i + 1), by omega, rfl, hlt, O'', env'', z⟩, fun v H3 y => ?_⟩
    obtain ⟨s3, rv⟩ := yl v H3 y
    have rl3 := rl'.heap s3
    have f3 := f'.trans (Fm.of_same s3)
    have rv' : Rep X.mg (Lv B O' false) H3 v ds[i] := by
      exact rv.mono (fun a ha => lv_sub f' ha.1 ha.2) keepRefl
    refine tgR_ok g rl3 rv' he1 fun σ4 O4 r4 f4 _ => ⟨B, O4, e1, r1, r4, hr1, ?_⟩
    have f5 := f3.trans f4
    cases r1 with
    | nx e2 => exact fun σ6 H6 O6 rl6 f6 => ⟨O6, e2, rl6, f5.trans f6, hl⟩
    | ct e2 => exact fun σ6 H6 O6 rl6 f6 => ⟨O6, e2, rl6, f5.trans f6, hl⟩
    | bk e2 =>
      cases hl
      exact fun σ6 H6 O6 rl6 f6 => q1 σ6 H6 O6 rl6 (f5.trans f6)
    | ret d =>
      cases hl
      exact q1
  · have hn : ds[i]? = none := List.getElem?_eq_none (by omega)
    have hdr : ds.drop i = [] := List.drop_eq_nil_of_le (by omega)
    rw [hdr] at hl
    unfold loop at hl
    cases hl
    exact .inl ⟨(wk i H' kp).2 hn, q1 σ' H' O' rl' f'⟩
end
end PV

namespace PV
variable [LT] [RT]
open PySem PySem.Spec PyProof.Rows L2
theorem start_get {N : List Str} {vs : List V} {ds : List D} (hv : vs.length = ds.length) (hN : ds.length ≤ N.length) :
    (ds.map DSlot.val ++ List.replicate (N.length - ds.length) DSlot.no).length = (L2.start N vs).length := by
  unfold L2.start
  simp [hv]
theorem erel_start {K : PySem.W.Frag} {mg : Str → Option Value} {A : Addr → Prop} {H : Hp} {N : List Str} {vs : List V} {ds : List D} (sf : Addr) (fr : Fr A H) (r : Reps mg A H vs ds) (hN : ds.length ≤ N.length) :
    ERel K mg ⟨H, A, sf, fr.tb⟩ (fun _ => none) (L2.start N vs) H (ds.map DSlot.val ++ List.replicate (N.length - ds.length) DSlot.no) := by
  have own : ∀ (i : Nat) (x : DSlot), (ds.map DSlot.val ++ List.replicate (N.length - ds.length) DSlot.no)[i]? = some x → (∃ d, x = .val d ∧ ds[i]? = some d ∧ i < ds.length) ∨ x = .no := fun i x e => by
    by_cases hi : i < ds.length
    · rw [List.getElem?_append_left (by simpa using hi), List.getElem?_map, List.getElem?_eq_getElem hi] at e
      exact .inl ⟨ds[i], (Option.some.inj e).symm, List.getElem?_eq_getElem hi, hi⟩
    · rw [List.getElem?_append_right (by simpa using hi), List.getElem?_replicate] at e
      split at e
      · exact .inr (Option.some.inj e).symm
      · cases e
  refine ⟨start_get r.len hN, Same.refl H, fun i d e => ?_, fun i d e => ?_, fun i d e => ?_, fun i j p a _ => (nomatch a), fun i p a => (nomatch a), fun i p a => (nomatch a), ⟨0, fun _ _ => rfl⟩, fun i p a => (nomatch a)⟩
  · rcases own i _ e with ⟨d', e2, e3, hi⟩ | e2
    · cases e2
      obtain ⟨v, h1, h2⟩ := r.get e3
      refine ⟨v, ?_, h2.mono (fun a h => ⟨.inl h, .inr fun j z => by cases z⟩) keepRefl⟩
      unfold L2.start
      rw [List.getElem?_append_left (by rw [List.length_map, r.len]; exact hi), List.getElem?_map, h1]
      rfl
    · cases e2
  · rcases own i _ e with ⟨d', e2, _⟩ | e2 <;> cases e2
  · rcases own i _ e with ⟨d', e2, _⟩ | e2 <;> cases e2
section
variable {P : Program} {w : World} {K : PySem.W.Frag} {mg : Str → Option Value} {base : Heap}
theorem fn_sound {x qual : Str} {args : Arguments} {body : List Stmt} {sc : Scope} {f : Addr} {fd : FuncData} {N ps : List Str} {k : Nat} {db : Sx} (F : FunD K x qual args body sc [] [] f fd) (S : FnScope N ps sc)
    (hb : ∀ (cdv : Value) (A : Around) (outer : List Env) (s : Shared) (H : Hp), Room k (A.deeper (envOfC qual sc s.heap.objs.size f cdv)) → SSs (cxOf CX0 P w K mg base N qual sc f cdv A outer s H E0).nox body db) (hso : RT.so = false := by rfl) :
    FnOk P w K mg base CX0 (k + 1) f fd ps (spD mg (fnc ps.length N.length db)) := by
  have hpl : ps.length ≤ N.length := by have := congrArg List.length S.pre; rw [List.length_take] at this; omega
  refine F.ok S (fun vs H Q E h => ?_) fun cdv A outer s H vs Q E hr h => ?_
  · obtain ⟨A, ds, d, fr, r, e, q⟩ := h
    unfold fnc at e
    split at e
    · rename_i hl; rw [r.len, hl]
    · cases e
  · refine ⟨tS K mg db, PSs.nox (hb cdv A outer s H hr), ?_⟩
    obtain ⟨A1, ds, d, fr, r, e, q⟩ := h
    unfold fnc at e
    split at e
    · rename_i hl
      obtain ⟨rs, h1, h2⟩ := bnd e
      have rl := erel_start (K := K) (N := N) 0 fr r (by rw [hl]; exact hpl)
      refine ⟨_, _, _, rs, rl, by rw [hl]; exact h1, ?_⟩
      cases rs with
      | nx e' =>
        cases h2
        exact fun σ' H' O' rl' f' => q _ H' rl'.same .non
      | ret d' =>
        cases h2
        exact fun v H' s' rv => q v H' s' ((retP_rep hso rv).mono (fun a h => h.1.elim id fun z => fr a z) keepRefl)
      | bk e' => cases h2
      | ct e' => cases h2
    · cases e
structure CallOk (P : Program) (w : World) (K : PySem.W.Frag) (mg : Str → Option Value) (base : Heap) (k : Nat) (x : Str) (F : Fn) : Prop where
  ex : ∃ f fd ps, FnOk P w K mg base CX0 k f fd ps (spD mg F) ∧ mg x = some (.ref f) ∧ PySem.W.keepIn K (.ref f) = true ∧ Binds K fd ps []
theorem CallOk.up {j k : Nat} {x : Str} {F : Fn} (c : CallOk P w K mg base j x F) (h : j ≤ k) : CallOk P w K mg base k x F :=
  let ⟨f, fd, ps, a, b, c, d⟩ := c.ex; ⟨f, fd, ps, a.mono h, b, c, d⟩
structure MethOk (P : Program) (w : World) (K : PySem.W.Frag) (mg : Str → Option Value) (base : Heap) (k : Nat) (c m : Str) (F : Fn) : Prop where
  ex : ∃ C f fd ps, FnOk P w K mg base CX0 k f fd ps (spD mg F) ∧ mg c = some (.ref C) ∧ Cls K C ∧ Meth K C m f ∧ Binds K fd ps []
structure AtOk (K : PySem.W.Frag) (mg : Str → Option Value) (c f : Str) : Prop where
  ex : ∃ C, mg c = some (.ref C) ∧ Cls K C ∧ NoAttr K C f
end
section
variable {X : Cx} {τ : Bool}
theorem se_cal {k : Nat} {x : Str} {F : Fn} {e : Expr} {es : List Expr} {da : Ax} {p pos : Pos} (c : CallOk X.prog X.w X.K X.mg X.base k x F) (hr : Room k X.A) (ha : SA X τ (e :: es) da) (hg : Gl X x := by rfl)
    (hdb : (x == ("__debug__" : Str)) = false := by decide) (he : starEach (e :: es) X.env = (false, eval e X.env) :: starEach es X.env := by rfl) (hpl : (backTo pos (starEach es X.env)).any (·.1) = false := by rfl) :
    SE X τ (.Call (.Name x p) (e :: es) [] pos) (cal F da) := by
  obtain ⟨f, fd, ps, G, hm, hk, hb⟩ := c.ex
  refine (pe_call G hr hg hm hk hb .nil pass0 ha hdb he hpl).weak fun σ H Q ⟨B, O, env, d, rl, h1, q⟩ => ?_
  obtain ⟨ds, hd, h2⟩ := bnd h1
  refine ⟨B, O, env, ds, rl, hd, fun vs H1 s1 r1 => ?_⟩
  show rC X.mg F (vs ++ []) H1 Q
  rw [List.append_nil]
  exact ⟨_, ds, d, (rl.heap s1).fr, r1, h2, fun v H' s' rv => q v H' (s1.trans s') rv⟩
theorem se_fld {cs : List Str} {f : Str} {e : Expr} {de : Ex} {pos : Pos} (hc : ∀ c ∈ cs, AtOk X.K X.mg c f) (he : SE X τ e de) (hb : attributeBase e f X.env (eval e X.env) = eval e X.env := by rfl) : SE X τ (.Attribute e f pos) (fld cs f de) := (pe_fld he hb).weak fun σ H Q ⟨B, O, env, d, rl, h1, q⟩ => by
  obtain ⟨x, hx, h2⟩ := bnd h1
  refine ⟨B, O, env, x, rl, hx, fun v H1 s1 r1 => ?_⟩
  cases x <;> simp only [attr, reduceCtorEq] at h2
  rename_i c fs xs
  split at h2
  · rename_i hm
    cases r1
    rename_i a C dx fs' ha hH hmg rs
    obtain ⟨C', e1, e2, e3⟩ := (hc _ hm).ex
    rw [hmg] at e1; cases e1
    have key : ∀ (fs' : List (Str × V)) (xs : List D), Reps X.mg (Lv B O τ) H1 (fs'.map (·.2)) xs → ((fs'.map (·.1)).zip xs).lookup f = some d → ∃ v, fs'.lookup f = some v ∧ Rep X.mg (Lv B O τ) H1 v d := by
      intro fs'
      induction fs' with
      | nil => intro xs _ e; simp at e
      | cons p r ih =>
        intro xs rs e
        cases rs with
        | cons rv rt =>
          simp only [List.map_cons, List.zip_cons_cons, List.lookup] at e
          simp only [List.lookup]
          split at e
          · rename_i hb
            cases e
            (try rw [hb])
            exact ⟨_, rfl, rv⟩
          · rename_i hb
            (try rw [hb])
            exact ih _ rt e
    obtain ⟨v', h3, h4⟩ := key fs' xs rs h2
    exact ⟨a, C, dx, fs', v', rfl, hH, e2, e3, h3, q v' H1 s1 h4⟩
  · cases h2
theorem lookup_none {fs : List (Str × V)} {m : Str} (h : m ∉ fs.map (·.1)) : fs.lookup m = none := by
  induction fs with
  | nil => rfl
  | cons p r ih =>
    simp only [List.map_cons, List.mem_cons, not_or] at h
    simp only [List.lookup]
    have : (m == p.1) = false := beq_eq_false_iff_ne.mpr h.1
    rw [this]
    exact ih h.2
theorem se_met0 {k : Nat} {c m : Str} {F : Fn} {o : Expr} {do_ : Ex} {apos pos : Pos} {pl : Sem Bool} (g : MethOk X.prog X.w X.K X.mg X.base k c m F) (hr : Room k X.A) (ho : SE X τ o do_)
    (ht : eval (.Call (.Attribute o m apos) [] [] pos) X.env = (do
      let ov ← eval o X.env
      standAt apos.atName
      let (f, first) ← holding [ov] (getMethod ov m pl)
      callWith pos f first (backTo pos (starEach [] X.env)) (backToKw pos (keywordEach [] X.env))) := by rfl) :
    SE X τ (.Call (.Attribute o m apos) [] [] pos) (met [(c, F)] m do_ aN) := by
  obtain ⟨C, f, fd, ps, G, hm, hc, hM, hb⟩ := g.ex
  refine (pe_meth0 ho hc hM G hr hb .nil pass0 ht).weak fun σ H Q ⟨B, O, env, d, rl, h1, q⟩ => ?_
  obtain ⟨x, hx, h2⟩ := bnd h1
  obtain ⟨ds, hd, h3⟩ := bnd h2
  cases hd
  refine ⟨B, O, env, x, rl, hx, fun v H1 s1 r1 => ?_⟩
  cases x <;> simp only [metD, reduceCtorEq] at h3
  rename_i c' fs xs
  split at h3
  · cases h3
  · rename_i hmem
    obtain ⟨F', hF, h4⟩ := bnd h3
    simp only [List.lookup] at hF
    split at hF
    · rename_i hb'
      cases hF
      have ec : c' = c := by simpa using hb'
      subst ec
      have r1' := r1
      cases r1
      rename_i a C' dx fs' ha hH hmg rs
      rw [hm] at hmg; cases hmg
      refine ⟨a, dx, fs', rfl, hH, lookup_none hmem, ?_⟩
      exact ⟨_, _, d, (rl.heap s1).fr, .cons r1' .nil, h4, fun v H' s' rv => q v H' (s1.trans s') rv⟩
    · cases hF
end
end PV

namespace PV
variable [LT] [RT]
open PySem PySem.Spec PyProof.Rows L2
structure SameX (x : Addr) (H H' : Hp) : Prop where
  stay : ∀ (b : Addr) (o : HO), b ≠ x → H b = some o → [NT o] → H' b = some o
  tab : LamX.Tabs LT.T H → LamX.Tabs LT.T H'
  dom : ∀ b, H' b = none → H b = none
theorem SameX.after {x : Addr} {H H1 H' : Hp} (e : SameX x H1 H') (s : Same H H1) (hx : H x = Option.none) : Same H H' := ⟨fun b o z => e.stay b o (ne_of_none z hx) (s b o z), fun t => e.tab (s.tab t), fun b z => s.dom b (e.dom b z)⟩
def spI (mg : Str → Option Value) (c : Str) (F : Fn) : Sp := fun vs H Q _ => ∃ (x dx C : Addr) (us : List V) (A : Addr → Prop) (ds : List D) (fs : List Str) (xs : List D), vs = .ref x :: us ∧ H x = some (.ins C dx []) ∧ mg c = some (.ref C) ∧ Fr A H ∧
  Reps mg (fun a => A a ∧ a ≠ x) H us ds ∧ F ds = some (.ins c fs xs) ∧ ∀ H', SameX x H H' → Own mg (fun a => A a ∧ a ≠ x) H' x (.ins c fs xs) → Q .non H'
theorem ERel.writeS {K : PySem.W.Frag} {mg : Str → Option Value} {B : Bs} {H : Hp} {O : Nat → Option Addr} {σ : L2.St} {env : DEnv} {i : Nat} {o' : HO} {d' : D} (r : ERel K mg B O σ H env) (hO : O i = some B.sf) (hs : σ[i]? = some (some (.ref B.sf)))
    (ho : Own mg (Lv B O false) (upd H B.sf o') B.sf d') (hw : Wr o') :
    ERel K mg B O σ (upd H B.sf o') (env.set i (.slf d')) ∧ Fm O H O (upd H B.sf o') := by
  have k : Keep (Lv B O false) H (upd H B.sf o') := keep_write r hO
  have h0 := r.fr0 i B.sf hO
  obtain ⟨o0, hp0, w0⟩ := r.trk i B.sf hO
  refine ⟨⟨by simp [r.len], ⟨fun b o e _ => ?_, fun t p2 hp2 => tabS_upd hp0 w0 (r.same.tab t p2 hp2), fun b h => r.same.dom b (dom_upd h)⟩, fun j d2 e => ?_, fun j d2 e => ?_, fun j d2 e => ?_, r.inj, fun j q a => ?_, r.fr0, r.bd, fun j q a hj => by
    by_cases ej : j = i
    · subst ej
      exact ⟨d', .inr (List.getElem?_set_self (by simpa using hj))⟩
    · rw [List.getElem?_set_ne (Ne.symm ej)]
      exact r.nst j q a (by simpa using hj)⟩, ⟨fun b o hb e _ => by rw [upd_ne (fun z => hb i (by rw [z]; exact hO))]; exact e, fun t p2 hp2 => tabS_upd hp0 w0 (t p2 hp2), fun b h => dom_upd h, fun j b e => .inl ⟨j, e⟩⟩⟩
  · rw [upd_ne (ne_of_none e h0)]; exact r.same b o e
  · rcases get_set e with ⟨rfl, e2, hl⟩ | ⟨hj, e2⟩
    · cases e2
    · obtain ⟨w, h1, h2⟩ := r.vals j d2 e2
      exact ⟨w, h1, h2.mono (fun _ z => z) k⟩
  · rcases get_set e with ⟨rfl, e2, hl⟩ | ⟨hj, e2⟩
    · cases e2
    · obtain ⟨q, h1, h2, h3, h4⟩ := r.owns j d2 e2
      have nq : q ≠ B.sf := fun z => hj (r.inj j i B.sf (z ▸ h1) hO)
      exact ⟨q, h1, h2, h3, h4.mono (fun _ z => z) k fun o z _ => by rw [upd_ne nq]; exact z⟩
  · rcases get_set e with ⟨rfl, e2, hl⟩ | ⟨hj, e2⟩
    · cases e2
      exact ⟨hO, hs, ho⟩
    · obtain ⟨h1, h2, h4⟩ := r.slfs j d2 e2
      exact absurd (r.inj j i B.sf h1 hO) hj
  · by_cases e : q = B.sf
    · subst e; exact ⟨o', upd_same, hw⟩
    · obtain ⟨o, z, w⟩ := r.trk j q a
      exact ⟨o, by rw [upd_ne e]; exact z, w⟩
theorem putF_map {mg : Str → Option Value} {A : Addr → Prop} {H : Hp} {f : Str} {v : V} {d : D} (hv : Rep mg A H v d) : ∀ (fs : List (Str × V)) (xs : List D), Reps mg A H (fs.map (·.2)) xs →
    (L2.putF f v fs).map (·.1) = (putFD f d (fs.map (·.1)) xs).1 ∧ Reps mg A H ((L2.putF f v fs).map (·.2)) (putFD f d (fs.map (·.1)) xs).2
  | [], xs, r => by
    cases r
    exact ⟨rfl, .cons hv .nil⟩
  | (g, x) :: fs, xs, r => by
    cases r with
    | cons h t =>
      obtain ⟨i1, i2⟩ := putF_map hv fs _ t
      unfold L2.putF
      simp only [List.map_cons, putFD]
      by_cases e : g = f
      · rw [if_pos e, if_pos e]
        exact ⟨rfl, .cons hv t⟩
      · rw [if_neg e, if_neg e]
        exact ⟨congrArg (List.cons g) i1, .cons h i2⟩
section
variable {X : Cx} {τ : Bool}
theorem s_setF {i : Nat} {c f y : Str} {e : Expr} {de : Ex} {pos pos' py : Pos} (hc : AtOk X.K X.mg c f) (he : SE X false e de) (hN : X.N[i]? = some y := by rfl) (hv : Vis X.env.scope y := by first | exact Or.inl rfl | exact Or.inr (Or.inl rfl) | exact Or.inr (Or.inr rfl)) (hd : (y == ("__debug__" : Str)) = false := by decide)
    (hcd : (y == ("__classdict__" : Str)) = false := by decide) (hs : swapsWith e (some (.Attribute (.Name y py) f pos')) pos.line X.env = pure false := by rfl) : SS X (.Assign [.Attribute (.Name y py) f pos'] e pos) (setF i c f de) := (ps_fld (pe_var hN hv hd hcd) he hs).weak fun D σ H ⟨B, O, env, r, rl, h1, q⟩ => by
  obtain ⟨d, hd, h2⟩ := bnd h1
  refine ⟨B, O, env, d, rl, hd, fun v H1 s1 r1 => ?_⟩
  split at h2
  · rename_i c' fs xs hi
    split at h2
    · rename_i hcc
      obtain ⟨rfl, hl1, hl2⟩ := hcc
      cases h2
      obtain ⟨g1, g2, g3⟩ := (rl.heap s1).slfs i _ hi
      obtain ⟨C', e1, e2, e3⟩ := hc.ex
      cases g3
      rename_i C dx fs' hH hmg rs
      rw [hmg] at e1
      obtain rfl : C = C' := by injection e1 with e1; injection e1
      refine ⟨_, g2, B.sf, C, dx, fs', rfl, hH, e2, e3, by simpa using hl1, ?_⟩
      obtain ⟨p1, p2⟩ := putF_map (f := f) r1 fs' xs rs
      have z := ERel.writeS (o' := .ins C dx (L2.putF f v fs')) (d' := .ins c' (putFD f d (fs'.map (·.1)) xs).1 (putFD f d (fs'.map (·.1)) xs).2) (rl.heap s1) g1 g2 (by
        rw [← p1]
        exact .ins upd_same hmg (p2.mono (fun _ z => z) (keep_write (rl.heap s1) g1))) trivial
      exact q σ _ O z.1 ((Fm.of_same s1).trans z.2)
    · cases h2
  · cases h2
end
section
variable {P : Program} {w : World} {K : PySem.W.Frag} {mg : Str → Option Value} {base : Heap}
theorem ini_sound {x qual c : Str} {args : Arguments} {body : List Stmt} {sc : Scope} {f : Addr} {fd : FuncData} {N ps : List Str} {k : Nat} {db : Sx} (F : FunD K x qual args body sc [] [] f fd) (S : FnScope N ps sc)
    (hb : ∀ (cdv : Value) (A : Around) (outer : List Env) (s : Shared) (H : Hp), Room k (A.deeper (envOfC qual sc s.heap.objs.size f cdv)) → SSs (cxOf CX0 P w K mg base N qual sc f cdv A outer s H E0).nox body db) :
    FnOk P w K mg base CX0 (k + 1) f fd ps (spI mg c (ini c ps.length N.length db)) := by
  have hpl : ps.length ≤ N.length := by have := congrArg List.length S.pre; rw [List.length_take] at this; omega
  refine F.ok S (fun vs H Q E h => ?_) fun cdv A outer s H vs Q E hr h => ?_
  · obtain ⟨a, dx, C, us, A, ds, fs, xs, rfl, _, _, _, r, e, _⟩ := h
    unfold ini at e
    split at e
    · rename_i hl; rw [List.length_cons, r.len, hl]
    · cases e
  · refine ⟨tS K mg db, PSs.nox (hb cdv A outer s H hr), ?_⟩
    obtain ⟨a, dx, C, us, A1, ds, fs, xs, rfl, hx, hC, fr, r, e, q⟩ := h
    unfold ini at e
    split at e
    · rename_i hl
      obtain ⟨rs, h1, h2⟩ := bnd e
      have own : ∀ (i : Nat) (x : DSlot), (ds.map DSlot.val ++ List.replicate (N.length - ps.length) DSlot.no)[i]? = some x → (∃ d, x = .val d ∧ ds[i]? = some d ∧ i < ds.length) ∨ x = .no := fun i x e => by
        by_cases hi : i < ds.length
        · rw [List.getElem?_append_left (by simpa using hi), List.getElem?_map, List.getElem?_eq_getElem hi] at e
          exact .inl ⟨ds[i], (Option.some.inj e).symm, List.getElem?_eq_getElem hi, hi⟩
        · rw [List.getElem?_append_right (by simpa using hi), List.getElem?_replicate] at e
          split at e
          · exact .inr (Option.some.inj e).symm
          · cases e
      have tb0 : LamX.Tabs LT.T (fun b => if b = a then none else H b) := fun p hp => by
        obtain ⟨ps, h1, h2, h3⟩ := fr.tb p hp
        have ne : p.1 ≠ a := fun e => by rw [e, hx] at h1; cases h1
        refine ⟨ps, by show (if p.1 = a then none else H p.1) = _; rw [if_neg ne]; exact h1, h2, fun pos cv hc => ?_⟩
        obtain ⟨c, e1, e2⟩ := h3 pos cv hc
        have nc : c ≠ a := fun e => by rw [e, hx] at e2; cases e2
        exact ⟨c, e1, by show (if c = a then none else H c) = _; rw [if_neg nc]; exact e2⟩
      have rl : ERel K mg ⟨fun b => if b = a then none else H b, fun b => A1 b ∧ b ≠ a, a, tb0⟩ (fun j => if j = 0 then some a else none) (L2.start N (.ref a :: us)) H (DSlot.slf (.ins c [] []) :: (ds.map DSlot.val ++ List.replicate (N.length - ps.length) DSlot.no)) := by
        refine ⟨?_, Same.of fun b o e => ?_, fun i d e => ?_, fun i d e => ?_, fun i d e => ?_, fun i j p ha hb => ?_, fun i p ha => ?_, fun i p ha => ?_, ⟨1, fun i hi => if_neg (by omega)⟩, fun i p ha hi => ?_⟩
        · unfold L2.start
          have hul : us.length = ds.length := r.len
          simp [hul]
          omega
        · dsimp only at e
          split at e
          · cases e
          · exact e
        · cases i with
          | zero => cases e
          | succ i =>
            rcases own i _ (by simpa using e) with ⟨d', e2, e3, hi⟩ | e2
            · cases e2
              obtain ⟨v, g1, g2⟩ := r.get e3
              refine ⟨v, ?_, g2.mono (fun b hb => ⟨.inl hb, .inr fun j z => ?_⟩) keepRefl⟩
              · unfold L2.start
                rw [List.getElem?_append_left (by simp [r.len]; omega), List.getElem?_map]
                simp [g1]
              · dsimp only at z
                split at z
                · cases z; exact hb.2 rfl
                · cases z
            · cases e2
        · cases i with
          | zero => cases e
          | succ i => rcases own i _ (by simpa using e) with ⟨d', e2, _⟩ | e2 <;> cases e2
        · cases i with
          | zero =>
            cases e
            refine ⟨rfl, rfl, ?_⟩
            have : Own mg (Lv ⟨fun b => if b = a then none else H b, fun b => A1 b ∧ b ≠ a, a, tb0⟩ (fun j => if j = 0 then some a else none) false) H a (.ins c (([] : List (Str × V)).map (·.1)) []) := .ins hx hC .nil
            exact this
          | succ i => rcases own i _ (by simpa using e) with ⟨d', e2, _⟩ | e2 <;> cases e2
        · (try dsimp only at ha hb)
          split at ha <;> split at hb <;> first | omega | (cases ha; done) | (cases hb; done)
        · (try dsimp only at ha)
          split at ha
          · cases ha; exact ⟨_, hx, trivial⟩
          · cases ha
        · (try dsimp only at ha)
          split at ha
          · cases ha; simp
          · cases ha
        · (try dsimp only at ha)
          split at ha
          · rename_i hi0
            subst hi0
            exact ⟨_, .inr rfl⟩
          · cases ha
      refine ⟨_, _, _, rs, rl, h1, ?_⟩
      cases rs with
      | nx e' =>
        (try dsimp only at h2)
        split at h2
        · rename_i c' fs' xs' he
          split at h2
          · rename_i hcc
            subst hcc
            cases h2
            refine fun σ' H' O' rl' f' => q H' ⟨fun b o hb e _ => rl'.same b o (by dsimp only; rw [if_neg hb]; exact e), f'.tab, f'.dom⟩ ?_
            obtain ⟨g1, g2, g3⟩ := rl'.slfs 0 _ he
            refine g3.mono (fun b hb => ?_) keepRefl fun _ z => z
            have nb : b ≠ a := fun z => hb.2.elim (fun z => Bool.noConfusion z) fun w => w 0 (by rw [z]; exact g1)
            refine ⟨?_, nb⟩
            rcases hb.1 with z | z
            · exact z.1
            · dsimp only at z
              rw [if_neg nb] at z
              exact fr b z
          · cases h2
        · cases h2
      | ret d' => cases h2
      | bk e' => cases h2
      | ct e' => cases h2
    · cases e
structure MakeOk (P : Program) (w : World) (K : PySem.W.Frag) (mg : Str → Option Value) (base : Heap) (k : Nat) (c : Str) (F : Fn) : Prop where
  ex : ∃ C f fd ps, FnOk P w K mg base CX0 k f fd ps (spI mg c F) ∧ mg c = some (.ref C) ∧ Mk K C f ∧ Binds K fd ps []
end
def isIns (c : Str) (F : Fn) : Fn := fun ds => (F ds).bind fun d => match d with
  | .ins c' fs xs => if c' = c then some (.ins c' fs xs) else none
  | _ => none
section
variable {X : Cx} {τ : Bool}
theorem mak_core {mg : Str → Option Value} {B : Bs} {O : Nat → Option Addr} {σ : L2.St} {H1 : Hp} {env : DEnv} {c : Str} {C : Addr} {F : Fn} {vs : List V} {ds : List D} {fs : List Str} {xs : List D} {Q : VK} {A : Addr → Prop}
    (hm : mg c = some (.ref C)) (fr : Fr A H1) (r1 : Reps mg A H1 vs ds) (e : F ds = some (.ins c fs xs)) (q : ∀ p H', Same H1 H' → H1 p = none → Own mg (fun a => A a ∧ a ≠ p) H' p (.ins c fs xs) → Q (.ref p) H') (E : XK) :
    ∀ x dx, H1 x = none → H1 dx = none → dx ≠ x → spI mg c F (.ref x :: (vs ++ [])) (upd (upd H1 dx (.own x)) x (.ins C dx [])) (fun v H2 => v = .non ∧ Q (.ref x) H2) E := by
  intro x dx hx hdx hne
  have s0 : Same H1 (upd (upd H1 dx (.own x)) x (.ins C dx [])) := Same.of fun b o z => by
    rw [upd_ne (ne_of_none z hx), upd_ne (ne_of_none z hdx)]; exact z
  refine ⟨x, dx, C, vs, A, ds, fs, xs, by rw [List.append_nil], upd_same, hm, ⟨fun a ha => fr a (Same.free s0 ha), s0.tabs fr.tb⟩, (Reps.ne hx r1).same s0, e, fun H' keep o => ⟨rfl, q x H' (keep.after s0 hx) hx o⟩⟩
theorem se_mak {k : Nat} {c : Str} {F : Fn} {e : Expr} {es : List Expr} {da : Ax} {p pos : Pos} (g : MakeOk X.prog X.w X.K X.mg X.base k c F) (hr : Room (k + 1) X.A) (ha : SA X τ (e :: es) da) (hg : Gl X c := by rfl)
    (hdb : (c == ("__debug__" : Str)) = false := by decide) (he : starEach (e :: es) X.env = (false, eval e X.env) :: starEach es X.env := by rfl) (hpl : (backTo pos (starEach es X.env)).any (·.1) = false := by rfl) :
    SE X τ (.Call (.Name c p) (e :: es) [] pos) (cal (isIns c F) da) := by
  obtain ⟨C, f, fd, ps, G, hm, M, hb⟩ := g.ex
  refine (pe_make M G hr hg hm hb .nil pass0 ha hdb he hpl).weak fun σ H Q ⟨B, O, env, d, rl, h1, q⟩ => ?_
  obtain ⟨ds, hd, h2⟩ := bnd h1
  obtain ⟨d', hF, h3⟩ := bnd h2
  refine ⟨B, O, env, ds, rl, hd, fun vs H1 s1 r1 => ?_⟩
  split at h3
  · split at h3
    · rename_i hcc
      subst hcc
      cases h3
      exact mak_core (B := B) (O := O) (σ := σ) (env := env) hm (rl.heap s1).fr r1 hF (fun p H' s hp o => q _ H' (s1.trans s) (o.rep (fun _ z => z.1) ((rl.heap s1).fr p hp))) _
    · cases h3
  · cases h3
theorem sn_mak {k : Nat} {c : Str} {F : Fn} {e : Expr} {es : List Expr} {da : Ax} {p pos : Pos} (g : MakeOk X.prog X.w X.K X.mg X.base k c F) (hr : Room (k + 1) X.A) (ha : SA X false (e :: es) da) (hg : Gl X c := by rfl)
    (hdb : (c == ("__debug__" : Str)) = false := by decide) (he : starEach (e :: es) X.env = (false, eval e X.env) :: starEach es X.env := by rfl) (hpl : (backTo pos (starEach es X.env)).any (·.1) = false := by rfl) :
    SN X (.Call (.Name c p) (e :: es) [] pos) (cal (isIns c F) da) := by
  obtain ⟨C, f, fd, ps, G, hm, M, hb⟩ := g.ex
  refine (pe_make M G hr hg hm hb .nil pass0 ha hdb he hpl).weak fun σ H Q ⟨B, O, env, d, rl, h1, q⟩ => ?_
  obtain ⟨ds, hd, h2⟩ := bnd h1
  obtain ⟨d', hF, h3⟩ := bnd h2
  refine ⟨B, O, env, ds, rl, hd, fun vs H1 s1 r1 => ?_⟩
  split at h3
  · split at h3
    · rename_i hcc
      subst hcc
      cases h3
      exact mak_core (B := B) (O := O) (σ := σ) (env := env) hm (rl.heap s1).fr r1 hF (fun p H' s hp o => q p H' (s1.trans s) (Same.free s1 hp) o) _
    · cases h3
  · cases h3
end
end PV

namespace PV
variable [LT] [RT]
open PySem PySem.Spec PyProof.Rows L2
mutual
def toP : D → PyData
  | .non => .none
  | .bl b => .bool b
  | .int i => .int i
  | .str x => .str x
  | .tup xs => .tuple (toPs xs)
  | .ftup xs => .tuple (toPs xs)
  | .lst xs => .list (toPs xs)
  | _ => .none
def toPs : List D → List PyData
  | [] => []
  | x :: xs => toP x :: toPs xs
end
mutual
theorem plain_dp {K : PySem.W.Frag} {mg : Str → Option Value} {A : Addr → Prop} {H : Hp} : ∀ {n : Nat} {v : V} {d : D}, D.plain n d = true → Rep mg A H v d → Dp K H v (toP d)
  | _, _, _, _, .non => .non
  | _, _, _, _, .bl b => .bl b
  | _, _, _, _, .int i => .int i
  | _, _, _, _, .str x => .str x
  | 0, _, _, e, .tup h r => by simp [D.plain] at e
  | n + 1, _, _, e, .tup h r => .tup (.inl (.inl h)) (plains_dp (n := n) (by simpa [D.plain] using e) r)
  | 0, _, _, e, .ftup h d r => by simp [D.plain] at e
  | n + 1, _, _, e, .ftup h d r => .tup (.inl (.inr ⟨_, h⟩)) (plains_dp (n := n) (by simpa [D.plain] using e) r)
  | 0, _, _, e, .lst a h r => by simp [D.plain] at e
  | n + 1, _, _, e, .lst a h r => .lst (.inl (.inl h)) (plains_dp (n := n) (by simpa [D.plain] using e) r)
  | _, _, _, e, .scr .. => by simp [D.plain] at e
  | _, _, _, e, .dicK .. => by simp [D.plain] at e
  | _, _, _, e, .dicT .. => by simp [D.plain] at e
  | _, _, _, e, .ins .. => by simp [D.plain] at e
theorem plains_dp {K : PySem.W.Frag} {mg : Str → Option Value} {A : Addr → Prop} {H : Hp} : ∀ {n : Nat} {v : List V} {d : List D}, D.plains n d = true → Reps mg A H v d → DpAll K H v (toPs d)
  | _, _, _, _, .nil => .nil
  | n, _, _, e, .cons h t => by
    simp only [D.plains, Bool.and_eq_true] at e
    exact .cons (plain_dp e.1 h) (plains_dp e.2 t)
end
mutual
theorem plain_lay : ∀ {n : Nat} {d : D}, D.plain n d = true → PyData.canLay0 (toP d) = true ∧ PyData.depth (toP d) ≤ n
  | n, .non, _ => by simp [toP, PyData.canLay0, PyData.depth]
  | n, .bl _, _ => by simp [toP, PyData.canLay0, PyData.depth]
  | n, .int _, _ => by simp [toP, PyData.canLay0, PyData.depth]
  | n, .str x, e => by
    simp only [D.plain] at e
    simp only [toP, PyData.canLay0, PyData.depth]
    exact ⟨e, Nat.zero_le _⟩
  | 0, .tup xs, e => by simp [D.plain] at e
  | n + 1, .tup xs, e => by
    have z := plains_lay (n := n) (d := xs) (by simpa [D.plain] using e)
    simp only [toP, PyData.canLay0, PyData.depth]
    exact ⟨z.1, Nat.succ_le_succ z.2⟩
  | 0, .ftup xs, e => by simp [D.plain] at e
  | n + 1, .ftup xs, e => by
    have z := plains_lay (n := n) (d := xs) (by simpa [D.plain] using e)
    simp only [toP, PyData.canLay0, PyData.depth]
    exact ⟨z.1, Nat.succ_le_succ z.2⟩
  | 0, .lst xs, e => by simp [D.plain] at e
  | n + 1, .lst xs, e => by
    have z := plains_lay (n := n) (d := xs) (by simpa [D.plain] using e)
    simp only [toP, PyData.canLay0, PyData.depth]
    exact ⟨z.1, Nat.succ_le_succ z.2⟩
  | _, .scr _, e => by simp [D.plain] at e
  | _, .dic _ _ _, e => by simp [D.plain] at e
  | _, .ins _ _ _, e => by simp [D.plain] at e
theorem plains_lay : ∀ {n : Nat} {d : List D}, D.plains n d = true → PyData.canLayAll0 (toPs d) = true ∧ PyData.depthAll (toPs d) ≤ n
  | n, [], _ => by simp [toPs, PyData.canLayAll0, PyData.depthAll]
  | n, x :: xs, e => by
    simp only [D.plains, Bool.and_eq_true] at e
    have h1 := plain_lay e.1
    have h2 := plains_lay e.2
    simp only [toPs, PyData.canLayAll0, PyData.depthAll, Bool.and_eq_true]
    exact ⟨⟨h1.1, h2.1⟩, Nat.max_le.mpr ⟨h1.2, h2.2⟩⟩
end
theorem plain_shaped {n : Nat} {d : D} (h : D.plain n d = true) (hn : n ≤ 64) : SeqAt.shaped (toP d) = true := by
  have z := plain_lay h
  unfold SeqAt.shaped
  rw [z.1, decide_eq_true (Nat.le_trans z.2 hn)]
  rfl
mutual
theorem eqv_toP : ∀ {n m : Nat} {a b : D}, D.plain n a = true → D.plain m b = true → PyData.eqv (toP a) (toP b) = D.eqv a b
  | n, m, a, b, ha, hb => by
    cases a <;> cases b <;> first
      | rfl
      | (simp [D.plain] at ha; done)
      | (simp [D.plain] at hb; done)
      | skip
    all_goals
      cases n <;> cases m <;> first
        | (simp [D.plain] at ha; done)
        | (simp [D.plain] at hb; done)
        | (simp only [D.plain] at ha hb
           simp only [toP, PyData.eqv, D.eqv]
           exact eqvs_toP ha hb)
theorem eqvs_toP : ∀ {n m : Nat} {a b : List D}, D.plains n a = true → D.plains m b = true → PyData.eqvAll (toPs a) (toPs b) = D.eqvs a b
  | n, m, [], [], _, _ => rfl
  | n, m, [], _ :: _, _, _ => rfl
  | n, m, _ :: _, [], _, _ => rfl
  | n, m, x :: xs, y :: ys, ha, hb => by
    simp only [D.plains, Bool.and_eq_true] at ha hb
    simp only [toPs, PyData.eqvAll, D.eqvs]
    rw [eqv_toP ha.1 hb.1, eqvs_toP ha.2 hb.2]
end
def rB (mg : Str → Option Value) (f : D → D → Option Bool) : R2 := fun x y H Q => ∃ A dx dy b, Rep mg A H x dx ∧ Rep mg A H y dy ∧ f dx dy = some b ∧ Q (.bl b) H
section
variable {X : Cx} {τ : Bool}
theorem nil_empty {mg : Str → Option Value} {A : Addr → Prop} {H : Hp} {xs : List V} {ds : List D} (t : Reps mg A H xs ds) (n : xs ≠ []) : ds.isEmpty = false := by
  cases ds
  · cases t; exact absurd rfl n
  · rfl
theorem op_addD : OpR X (binaryOp .Add) (rD X.mg addD) := by
  intro pins s σ H x y v u Q I rx ry ⟨A, dx, dy, d, fr, r1, r2, e, q⟩
  cases r1 <;> cases r2 <;> simp only [addD, reduceCtorEq] at e
  · cases e
    exact op_add pins s σ H _ _ v u Q I rx ry ⟨_, _, rfl, rfl, q _ H (Same.refl H) (.int _)⟩
  · split at e
    · rename_i hz
      cases e
      exact op_add_str pins s σ H _ _ v u Q I rx ry ⟨_, _, rfl, rfl, szL_ok hz, q _ H (Same.refl H) (.str _)⟩
    · cases e
  · split at e
    · rename_i a xs ds h1 t1 b ys es h2 t2 hz
      cases e
      refine op_catA pins s σ H _ _ v u Q I rx ry ⟨a, b, xs, ys, rfl, rfl, .inl (.inl h1), .inl (.inl h2), by rw [t1.len, t2.len]; exact szL_ok hz, fun e => ?_, fun _ e => ?_, fun _ _ p hp => ?_⟩
      · subst e
        cases t1
        exact q _ H (Same.refl H) (.tup h2 (by simpa using t2))
      · subst e
        cases t2
        exact q _ H (Same.refl H) (.tup h1 (by simpa using t1))
      · exact q _ _ (same_upd hp) (.tup upd_same ((t1.append t2).same (same_upd hp)))
    · cases e
  · split at e
    · rename_i a xs ds h1 t1 b ob ys es h2 f2 t2 hz
      cases e
      refine op_catA pins s σ H _ _ v u Q I rx ry ⟨a, b, xs, ys, rfl, rfl, .inl (.inl h1), .inl (.inr ⟨_, h2⟩), by rw [t1.len, t2.len]; exact szL_ok hz, fun e => ?_, fun n e => ?_, fun n _ p hp => ?_⟩
      · subst e
        cases t1
        exact q _ H (Same.refl H) (.ftup h2 f2 t2)
      · subst e
        cases t2
        simp only [nil_empty t1 n, Bool.false_eq_true, if_false] at q
        exact q _ H (Same.refl H) (.tup h1 (by simpa using t1))
      · simp only [nil_empty t1 n, Bool.false_eq_true, if_false] at q
        exact q _ _ (same_upd hp) (.tup upd_same ((t1.append t2).same (same_upd hp)))
    · cases e
  · split at e
    · rename_i a xs ds a1 h1 t1 b ys es a2 h2 t2 hz
      cases e
      exact op_cat pins s σ H _ _ v u Q I rx ry ⟨a, b, xs, ys, rfl, rfl, h1, h2, by rw [t1.len, t2.len]; exact szL_ok hz, fun p hp => q _ _ (same_upd hp) (.lst (fr p hp) upd_same ((t1.append t2).same (same_upd hp)))⟩
    · cases e
  · split at e
    · rename_i a ob xs ds h1 f1 t1 b ys es h2 t2 hz
      cases e
      refine op_catA pins s σ H _ _ v u Q I rx ry ⟨a, b, xs, ys, rfl, rfl, .inl (.inr ⟨_, h1⟩), .inl (.inl h2), by rw [t1.len, t2.len]; exact szL_ok hz, fun e => ?_, fun n e => ?_, fun n m p hp => ?_⟩
      · subst e
        cases t1
        exact q _ H (Same.refl H) (.tup h2 (by simpa using t2))
      · subst e
        cases t2
        simp only [nil_empty t1 n, Bool.not_false, List.isEmpty_nil, Bool.and_self, if_true] at q
        exact q _ H (Same.refl H) (.ftup h1 f1 t1)
      · simp only [nil_empty t2 m, Bool.and_false, Bool.false_eq_true, if_false] at q
        exact q _ _ (same_upd hp) (.tup upd_same ((t1.append t2).same (same_upd hp)))
    · cases e
  · split at e
    · rename_i a ob xs ds h1 f1 t1 b ob2 ys es h2 f2 t2 hz
      cases e
      refine op_catA pins s σ H _ _ v u Q I rx ry ⟨a, b, xs, ys, rfl, rfl, .inl (.inr ⟨_, h1⟩), .inl (.inr ⟨_, h2⟩), by rw [t1.len, t2.len]; exact szL_ok hz, fun e => ?_, fun n e => ?_, fun n m p hp => ?_⟩
      · subst e
        cases t1
        exact q _ H (Same.refl H) (.ftup h2 f2 t2)
      · subst e
        cases t2
        simp only [nil_empty t1 n, List.isEmpty_nil, Bool.false_eq_true, if_false, if_true] at q
        exact q _ H (Same.refl H) (.ftup h1 f1 t1)
      · simp only [nil_empty t1 n, nil_empty t2 m, Bool.false_eq_true, if_false] at q
        exact q _ _ (same_upd hp) (.tup upd_same ((t1.append t2).same (same_upd hp)))
    · cases e
theorem op_subD : OpR X (binaryOp .Sub) (rD X.mg subD) := by
  intro pins s σ H x y v u Q I rx ry ⟨A, dx, dy, d, fr, r1, r2, e, q⟩
  cases r1 <;> cases r2 <;> simp only [subD, reduceCtorEq] at e
  cases e
  exact op_sub pins s σ H _ _ v u Q I rx ry ⟨_, _, rfl, rfl, q _ H (Same.refl H) (.int _)⟩
theorem b64_ok {a : Int} (h : b64 a = true) : -(2 ^ 64) < a ∧ a < 2 ^ 64 := by
  unfold b64 at h
  have h := of_decide_eq_true h
  by_cases z : a.natAbs = 0
  · omega
  · have := (Nat.log2_lt z).mp h
    omega
theorem b64_of {a : Int} (h : -(2 ^ 64) < a ∧ a < 2 ^ 64) : b64 a = true := by
  unfold b64
  refine decide_eq_true ?_
  by_cases z : a.natAbs = 0
  · rw [z]; decide
  · exact (Nat.log2_lt z).mpr (by omega)
theorem op_modD : OpR X (binaryOp .Mod) (rD X.mg modD) := by
  intro pins s σ H x y v u Q I rx ry ⟨A, dx, dy, d, fr, r1, r2, e, q⟩
  cases r1 <;> cases r2 <;> simp only [modD, reduceCtorEq] at e
  split at e
  · rename_i h
    cases e
    exact op_mod pins s σ H _ _ v u Q I rx ry ⟨_, _, rfl, rfl, h, q _ H (Same.refl H) (.int _)⟩
  · cases e
theorem op_divD : OpR X (binaryOp .FloorDiv) (rD X.mg divD) := by
  intro pins s σ H x y v u Q I rx ry ⟨A, dx, dy, d, fr, r1, r2, e, q⟩
  cases r1 <;> cases r2 <;> simp only [divD, reduceCtorEq] at e
  split at e
  · rename_i h
    simp only [Bool.and_eq_true, decide_eq_true_eq] at h
    cases e
    exact op_fdiv pins s σ H _ _ v u Q I rx ry ⟨_, _, rfl, rfl, h, q _ H (Same.refl H) (.int _)⟩
  · cases e
theorem op_powD : OpR X (binaryOp .Pow) (rD X.mg powD) := by
  intro pins s σ H x y v u Q I rx ry ⟨A, dx, dy, d, fr, r1, r2, e, q⟩
  cases r1 <;> cases r2 <;> simp only [powD, reduceCtorEq] at e
  split at e
  · rename_i h
    simp only [Bool.and_eq_true, decide_eq_true_eq] at h
    cases e
    exact op_pow pins s σ H _ _ v u Q I rx ry ⟨_, _, rfl, rfl, ⟨h.1.1, h.1.2, h.2⟩, q _ H (Same.refl H) (.int _)⟩
  · cases e
theorem op_eqDD (hu : X.A.units + 64 < cLine) : OpR X (compareOp .Eq) (rB X.mg eqD) := by
  intro pins s σ H x y v u Q I rx ry ⟨A, dx, dy, b, r1, r2, e, q⟩
  unfold eqD at e
  split at e
  · rename_i h
    simp only [Bool.and_eq_true] at h
    cases e
    exact op_eqD hu pins s σ H x y v u Q I rx ry ⟨_, _, plain_dp h.1 r1, plain_dp h.2 r2, plain_shaped h.1 (by decide), plain_shaped h.2 (by decide), by rw [eqv_toP h.1 h.2]; exact q⟩
  · cases e
theorem op_neDD (hu : X.A.units + 64 < cLine) : OpR X (compareOp .NotEq) (rB X.mg (neg eqD)) := by
  intro pins s σ H x y v u Q I rx ry ⟨A, dx, dy, b, r1, r2, e, q⟩
  unfold neg eqD at e
  split at e
  · rename_i h
    simp only [Bool.and_eq_true] at h
    cases e
    exact op_neD hu pins s σ H x y v u Q I rx ry ⟨_, _, plain_dp h.1 r1, plain_dp h.2 r2, plain_shaped h.1 (by decide), plain_shaped h.2 (by decide), by rw [eqv_toP h.1 h.2]; exact q⟩
  · cases e
theorem op_ltD : OpR X (compareOp .Lt) (rB X.mg ltD) := by
  intro pins s σ H x y v u Q I rx ry ⟨A, dx, dy, b, r1, r2, e, q⟩
  cases r1 <;> cases r2 <;> simp only [ltD, reduceCtorEq] at e
  cases e
  exact op_lt pins s σ H _ _ v u Q I rx ry ⟨_, _, rfl, rfl, q⟩
theorem op_leD : OpR X (compareOp .LtE) (rB X.mg leD) := by
  intro pins s σ H x y v u Q I rx ry ⟨A, dx, dy, b, r1, r2, e, q⟩
  cases r1 <;> cases r2 <;> simp only [leD, reduceCtorEq] at e
  cases e
  exact op_le pins s σ H _ _ v u Q I rx ry ⟨_, _, rfl, rfl, q⟩
theorem op_gtD : OpR X (compareOp .Gt) (rB X.mg (flip ltD)) := by
  intro pins s σ H x y v u Q I rx ry ⟨A, dx, dy, b, r1, r2, e, q⟩
  cases r1 <;> cases r2 <;> simp only [flip, ltD, reduceCtorEq] at e
  cases e
  exact op_gt pins s σ H _ _ v u Q I rx ry ⟨_, _, rfl, rfl, q⟩
theorem op_geD : OpR X (compareOp .GtE) (rB X.mg (flip leD)) := by
  intro pins s σ H x y v u Q I rx ry ⟨A, dx, dy, b, r1, r2, e, q⟩
  cases r1 <;> cases r2 <;> simp only [flip, leD, reduceCtorEq] at e
  cases e
  exact op_ge pins s σ H _ _ v u Q I rx ry ⟨_, _, rfl, rfl, q⟩
theorem anyP : ∀ {n m : Nat} {ys : List D} {x : D}, D.plain n x = true → D.plains m ys = true → ((toPs ys).any fun z => PyData.eqv z (toP x)) = ys.any fun z => D.eqv z x
  | n, m, [], x, _, _ => rfl
  | n, m, y :: ys, x, h, h2 => by
    simp only [D.plains, Bool.and_eq_true] at h2
    simp only [toPs, List.any_cons]
    rw [eqv_toP h2.1 h, anyP h h2.2]
theorem op_ninLD (hu : X.A.units + 65 < cLine) : OpR X (compareOp .NotIn) (rB X.mg (neg inL)) := by
  intro pins s σ H x y v u Q I rx ry ⟨A, dx, dy, b, r1, r2, e, q⟩
  unfold neg at e
  cases r2 <;> simp only [inL, reduceCtorEq, Option.map_none] at e
  rename_i a xs ds ha h t
  split at e
  · rename_i hp
    simp only [Bool.and_eq_true] at hp
    cases e
    have pl : D.plain 60 (.lst ds) = true := by simp only [D.plain]; exact hp.2
    refine op_notInD hu pins s σ H x _ v u Q I rx ry ⟨_, _, plain_dp hp.1 r1, plain_dp pl (.lst ha h t), plain_shaped hp.1 (by decide), plain_shaped pl (by decide), ?_⟩
    rw [anyP hp.1 hp.2]
    exact q
  · cases e
theorem str_one {x : Str} {c : Nat} (h : x.cps.toList = [c]) : x = ⟨#[c]⟩ := by
  cases x with
  | mk cps =>
    have : cps = #[c] := by
      apply Array.ext'
      exact h
    rw [this]
theorem op_inSD : OpR X (compareOp .In) (rB X.mg inS) := by
  intro pins s σ H x y v u Q I rx ry ⟨A, dx, dy, b, r1, r2, e, q⟩
  cases r1 <;> cases r2 <;> simp only [inS, reduceCtorEq] at e
  split at e
  · rename_i c hc
    cases e
    exact op_in_sign pins s σ H _ _ v u Q I rx ry ⟨c, _, by rw [str_one hc], rfl, q⟩
  · cases e
theorem op_ninSD : OpR X (compareOp .NotIn) (rB X.mg (neg inS)) := by
  intro pins s σ H x y v u Q I rx ry ⟨A, dx, dy, b, r1, r2, e, q⟩
  unfold neg at e
  cases r1 <;> cases r2 <;> simp only [inS, reduceCtorEq, Option.map_none] at e
  split at e
  · rename_i c hc
    cases e
    exact op_notIn_sign pins s σ H _ _ v u Q I rx ry ⟨c, _, by rw [str_one hc], rfl, q⟩
  · cases e
theorem tB_of {K : PySem.W.Frag} {mg : Str → Option Value} {f : D → D → Option Bool} {a b : Ex} {σ : L2.St} {H : Hp} {Q : Bool → Hp → Prop} {τ' : Bool} (h : tT K mg (cmp f a b) σ H Q) : tOp (rB mg f) (tE K mg true a) (tE K mg true b) σ H (fun x H' => ∃ k, x = .bl k ∧ Q k H') := by
  obtain ⟨B, O, env, c, r, h1, q⟩ := h
  obtain ⟨x, hx, h1⟩ := bnd h1
  obtain ⟨y, hy, h1⟩ := bnd h1
  exact ⟨B, O, env, x, r, hx, fun v H1 s1 r1 => ⟨B, O, env, y, r.heap s1, hy, fun w H2 s2 r2 => ⟨_, x, y, c, r1.same s2, r2, h1, c, rfl, q H2 (s1.trans s2)⟩⟩⟩
theorem st_cmp {f : D → D → Option Bool} {op : CmpOp} {a b : Expr} {da db : Ex} {pos : Pos} (ho : OpR X (compareOp op) (rB X.mg f)) (ha : SE X true a da) (hb : SE X true b db) (hm : behindInMarks op b = false := by first | exact nomark _ | rfl) : ST X (.Compare a [op] [b] pos) (cmp f da db) :=
  (pt_cmpR ho ha hb hm).weak fun σ H Q h => tB_of (τ' := true) h
theorem se_cmp {f : D → D → Option Bool} {op : CmpOp} {a b : Expr} {da db : Ex} {pos : Pos} (ho : OpR X (compareOp op) (rB X.mg f)) (ha : SE X true a da) (hb : SE X true b db) (hm : behindInMarks op b = false := by first | exact nomark _ | rfl) : SE X τ (.Compare a [op] [b] pos) (boo (cmp f da db)) :=
  (pe_cmpR ho ha hb hm).weak fun σ H Q ⟨B, O, env, d, r, h1, q⟩ => by
  obtain ⟨c, hc, h2⟩ := Option.map_eq_some_iff.mp h1
  subst h2
  obtain ⟨x, hx, h1⟩ := bnd hc
  obtain ⟨y, hy, h1⟩ := bnd h1
  exact ⟨B, O, env, x, r, hx, fun v H1 s1 r1 => ⟨B, O, env, y, r.heap s1, hy, fun w H2 s2 r2 => ⟨_, x, y, c, r1.same s2, r2, h1, q _ H2 (s1.trans s2) (.bl c)⟩⟩⟩
theorem st_chn {f g : D → D → Option Bool} {op op' : CmpOp} {a b c : Expr} {da db dc : Ex} {pos : Pos} (ho : OpR X (compareOp op) (rB X.mg f)) (ho' : OpR X (compareOp op') (rB X.mg g)) (ha : SE X true a da) (hb : SE X true b db) (hc : SE X true c dc)
    (hm : lastMarks [op, op'] [b, c] = false := by with_unfolding_all rfl) : ST X (.Compare a [op, op'] [b, c] pos) (chn f g da db dc) :=
  (pt_chain ho ho' ha hb hc hm).weak fun σ H Q ⟨B, O, env, k, r, h1, q⟩ => by
  obtain ⟨x, hx, h1⟩ := bnd h1
  obtain ⟨y, hy, h1⟩ := bnd h1
  obtain ⟨c1, hc1, h1⟩ := bnd h1
  refine ⟨B, O, env, x, r, hx, fun v H1 s1 r1 => ⟨B, O, env, y, r.heap s1, hy, fun w H2 s2 r2 => ⟨_, x, y, c1, r1.same s2, r2, hc1, c1, rfl, ?_⟩⟩⟩
  cases c1 with
  | false =>
    cases h1
    exact iteF ⟨_, rfl, q H2 (s1.trans s2)⟩
  | true =>
    obtain ⟨z, hz, h1⟩ := bnd h1
    exact iteT ⟨B, O, env, z, (r.heap s1).heap s2, hz, fun w' H3 s3 r3 => ⟨_, y, z, k, r2.same s3, r3, h1, k, rfl, q H3 ((s1.trans s2).trans s3)⟩⟩
theorem st_tes {e : Expr} {de : Ex} (h : SE X true e de) (he : ∀ whole, isTrue e X.env whole = (do let v ← whole; standAt e.pos; holding [v] (truthy v)) := by intro _; rfl) : ST X e (tes de) := (pt_val h he).weak fun σ H Q ⟨B, O, env, b, r, h1, q⟩ => by
  obtain ⟨d, hd, h2⟩ := bnd h1
  refine ⟨B, O, env, d, r, hd, fun v H1 s1 r1 => ?_⟩
  split at h2
  · cases h2
    cases r1
    exact ⟨_, rfl, q H1 s1⟩
  · cases h2
theorem sw_and1 {a : Expr} {ta : Tx} {pos : Pos} (h : ST X a ta) : SWd X (.BoolOp .And [a] pos) ta := pw_and1 h
theorem sw_or1 {a : Expr} {ta : Tx} {pos : Pos} (h : ST X a ta) : SWd X (.BoolOp .Or [a] pos) ta := pw_or1 h
theorem sw_and {a b : Expr} {rest : List Expr} {ta tb : Tx} {pos : Pos} (h1 : ST X a ta) (h2 : SWd X (.BoolOp .And (b :: rest) pos) tb) : SWd X (.BoolOp .And (a :: b :: rest) pos) (andT ta tb) := (pw_and h1 h2).weak fun σ H Q ⟨B, O, env, c, r, e, q⟩ => by
  obtain ⟨ca, ha, e⟩ := bnd e
  refine ⟨B, O, env, ca, r, ha, fun H1 s1 => ?_⟩
  cases ca with
  | true => exact iteT ⟨B, O, env, c, r.heap s1, e, fun H2 s2 => q H2 (s1.trans s2)⟩
  | false =>
    cases e
    exact iteF (q H1 s1)
theorem sw_or {a b : Expr} {rest : List Expr} {ta tb : Tx} {pos : Pos} (h1 : ST X a ta) (h2 : SWd X (.BoolOp .Or (b :: rest) pos) tb) : SWd X (.BoolOp .Or (a :: b :: rest) pos) (orT ta tb) := (pw_or h1 h2).weak fun σ H Q ⟨B, O, env, c, r, e, q⟩ => by
  obtain ⟨ca, ha, e⟩ := bnd e
  refine ⟨B, O, env, ca, r, ha, fun H1 s1 => ?_⟩
  cases ca with
  | false => exact iteF ⟨B, O, env, c, r.heap s1, e, fun H2 s2 => q H2 (s1.trans s2)⟩
  | true =>
    cases e
    exact iteT (q H1 s1)
theorem SWd.st {e : Expr} {t : Tx} (h : SWd X e t) : ST X e t := h.pt
theorem st_not {a : Expr} {ta : Tx} {pos : Pos} (h : ST X a ta) : ST X (.UnaryOp .Not a pos) (notT ta) := (pt_not h).weak fun σ H Q ⟨B, O, env, c, r, e, q⟩ => by
  obtain ⟨k, hk, h2⟩ := Option.map_eq_some_iff.mp e
  subst h2
  exact ⟨B, O, env, k, r, hk, fun H1 s1 => q H1 s1⟩
theorem se_one {op : PySem.BoolOp} {a : Expr} {da : Ex} {pos : Pos} (h : SE X τ a da) : SE X τ (.BoolOp op [a] pos) da := pe_one h
theorem se_or {a b : Expr} {rest : List Expr} {da db : Ex} {pos : Pos} (h1 : SE X τ a da) (h2 : SE X τ (.BoolOp .Or (b :: rest) pos) db) : SE X τ (.BoolOp .Or (a :: b :: rest) pos) (orV da db) := (pe_or h1 h2).weak fun σ H Q ⟨B, O, env, d, r, e, q⟩ => by
  obtain ⟨x, hx, e⟩ := bnd e
  refine ⟨B, O, env, x, r, hx, fun v H1 s1 r1 => ?_⟩
  split at e
  · cases r1
    cases e
    exact ⟨_, rfl, iteT (q _ H1 s1 (.bl _))⟩
  · cases r1
    exact ⟨_, rfl, iteF ⟨B, O, env, d, r.heap s1, e, fun v H2 s2 r2 => q v H2 (s1.trans s2) r2⟩⟩
  · cases e
theorem se_ife {c a b : Expr} {tc : Tx} {da db : Ex} {pos : Pos} (hc : ST X c tc) (ha : SE X τ a da) (hb : SE X τ b db) : SE X τ (.IfExp c a b pos) (ife tc da db) := (pe_ifExp hc ha hb).weak fun σ H Q ⟨B, O, env, d, r, e, q⟩ => by
  obtain ⟨c, hc, e⟩ := bnd e
  refine ⟨B, O, env, c, r, hc, fun H1 s1 => ?_⟩
  cases c with
  | true => exact iteT ⟨B, O, env, d, r.heap s1, e, fun v H2 s2 r2 => q v H2 (s1.trans s2) r2⟩
  | false => exact iteF ⟨B, O, env, d, r.heap s1, e, fun v H2 s2 r2 => q v H2 (s1.trans s2) r2⟩
end
end PV

namespace PV
variable [LT] [RT]
open PySem PySem.Spec PyProof.Rows L2
theorem at_get {mg : Str → Option Value} {A : Addr → Prop} {H : Hp} {vs : List V} {ds : List D} {i : Int} {d : D} (r : Reps mg A H vs ds) (e : ((PV.ixN ds.length i).bind fun k => ds[k]?) = some d) : ∃ v, atI vs i = some v ∧ Rep mg A H v d := by
  obtain ⟨k, h1, h2⟩ := bnd e
  obtain ⟨v, h3, h4⟩ := r.get h2
  refine ⟨v, ?_, h4⟩
  unfold atI
  rw [r.len]
  show (PV.ixN ds.length i).bind _ = _
  rw [h1]
  exact h3
section
variable {mg : Str → Option Value} {A : Addr → Prop} {H : Hp} {v : V} {ds ks : List D}
theorem Rep.lst_inv (r : Rep mg A H v (.lst ds)) : ∃ a xs, v = .ref a ∧ A a ∧ H a = some (.lst xs) ∧ Reps mg A H xs ds := by
  cases r
  exact ⟨_, _, rfl, by assumption, by assumption, by assumption⟩
theorem Rep.ftup_inv (r : Rep mg A H v (.ftup ds)) : ∃ a o xs, v = .ref a ∧ H a = some (.frz o (.tup xs)) ∧ o.dict = none ∧ Reps mg A H xs ds := by
  cases r
  exact ⟨_, _, _, rfl, by assumption, by assumption, by assumption⟩
theorem Rep.tup_inv (r : Rep mg A H v (.tup ds)) : ∃ a xs, v = .ref a ∧ H a = some (.tup xs) ∧ Reps mg A H xs ds := by
  cases r
  exact ⟨_, _, rfl, by assumption, by assumption⟩
end
section
variable {X : Cx} {τ : Bool}
theorem ix_getD : IxR X (rD X.mg getD) := by
  intro value slice pins s σ H x y v u Q I rx ry ⟨A, dx, dy, d, fr, r1, r2, e, q⟩ hs
  cases r1 <;> cases r2 <;> simp only [getD, reduceCtorEq] at e
  · split at e
    · rename_i hz
      obtain ⟨k, h1, h2⟩ := bnd e
      obtain ⟨c, h3, h4⟩ := Option.map_eq_some_iff.mp h2
      subst h4
      refine ix_str value slice pins s σ H _ _ v u Q I rx ry ⟨_, _, c, rfl, rfl, szL_ok hz, ?_, q _ H (Same.refl H) (.str _)⟩ hs
      unfold atI
      rename_i z i
      have hl : z.cps.toList.length = z.length := by simp [Str.length]
      rw [hl]
      show (PV.ixN z.length i).bind _ = _
      rw [h1]
      simpa using h3
    · cases e
  · rename_i a xs ds h t i
    obtain ⟨w, h1, h2⟩ := at_get t e
    exact ix_tup value slice pins s σ H _ _ v u Q I rx ry ⟨a, xs, i, w, rfl, rfl, .inl (.inl h), h1, q w H (Same.refl H) h2⟩ hs
  · rename_i a xs ds ha h t i
    obtain ⟨w, h1, h2⟩ := at_get t e
    exact ix_list value slice pins s σ H _ _ v u Q I rx ry ⟨a, xs, i, w, rfl, rfl, .inl (.inl h), h1, q w H (Same.refl H) h2⟩ hs
  · rename_i a ns ha h i
    obtain ⟨k, h1, h2⟩ := bnd e
    obtain ⟨n, h3, h4⟩ := Option.map_eq_some_iff.mp h2
    subst h4
    refine ix_list value slice pins s σ H _ _ v u Q I rx ry ⟨a, _, i, .int n, rfl, rfl, .inl h, ?_, q _ H (Same.refl H) (.int n)⟩ hs
    unfold atI
    rw [List.length_map]
    show (PV.ixN ns.length i).bind _ = _
    rw [h1]
    simp [h3]
  · rename_i a ob xs ds h f t i
    obtain ⟨w, h1, h2⟩ := at_get t e
    exact ix_tup value slice pins s σ H _ _ v u Q I rx ry ⟨a, xs, i, w, rfl, rfl, .inl (.inr ⟨_, h⟩), h1, q w H (Same.refl H) h2⟩ hs
theorem se_get {a b : Expr} {da db : Ex} {pos : Pos} (ha : SE X τ a da) (hb : SE X τ b db) (hs : PlainIx b := by intro _ _; rfl) : SE X τ (.Subscript a b pos) (op2 getD da db) := (pe_ix ix_getD ha hb hs).weak fun _ _ _ h => tOp_of h
def tO (K : PySem.W.Frag) (mg : Str → Option Value) (dp : DEnv → Option (Option Int)) : TO := fun σ H Q => ∃ B O env o, ERel K mg B O σ H env ∧ dp env = some o ∧ ∀ H', Same H H' → Q o H'
abbrev SO (X : Cx) (e : Option Expr) (dp : DEnv → Option (Option Int)) : Prop := PO X e (tO X.K X.mg dp)
theorem so_none : SO X none prN := ⟨fun pins s σ H Q I ⟨B, O, env, o, r, e, q⟩ => by
  cases e
  exact po_none.run pins s σ H Q I (q H (Same.refl H))⟩
theorem so_some {e : Expr} {de : Ex} (h : SE X true e de) : SO X (some e) (prt de) := ⟨fun pins s σ H Q I ⟨B, O, env, o, r, e, q⟩ => by
  refine (po_some h).run pins s σ H Q I ?_
  obtain ⟨d, hd, h2⟩ := bnd e
  refine ⟨B, O, env, d, r, hd, fun v H1 s1 r1 => ?_⟩
  split at h2
  · cases h2
    cases r1
    exact ⟨_, rfl, q H1 s1⟩
  · cases h2⟩
theorem Reps.cut {mg : Str → Option Value} {A : Addr → Prop} {H : Hp} {vs : List V} {ds : List D} {lo hi : Option Int} (r : Reps mg A H vs ds) : Reps mg A H (cutV vs lo hi) (cut ds lo hi) := by
  unfold cutV PV.cut
  rw [r.len]
  exact (r.drop _).take _
theorem slT_of {K : PySem.W.Frag} {mg : Str → Option Value} {f : Option Int → Option Int → D → Option D} {r0 : V → Option Int → Option Int → Hp → VK → Prop} {da : Ex} {lo hi : DEnv → Option (Option Int)} {σ : L2.St} {H : Hp} {Q : VK}
    (hr : ∀ (B : Bs) O (σ : L2.St) env x lo hi H1 dx d Q, ERel K mg B O σ H1 env → Rep mg (Lv B O τ) H1 x dx → f lo hi dx = some d → (∀ v H', Same H1 H' → Rep mg (Lv B O τ) H' v d → Q v H') → r0 x lo hi H1 Q)
    (h : tE K mg τ (slE f da lo hi) σ H Q) : tSl r0 (tE K mg τ da) (tO K mg lo) (tO K mg hi) σ H Q := by
  obtain ⟨B, O, env, d, r, e, q⟩ := h
  obtain ⟨x, hx, e⟩ := bnd e
  obtain ⟨l, hl, e⟩ := bnd e
  obtain ⟨u, hu, e⟩ := bnd e
  refine ⟨B, O, env, x, r, hx, fun v H1 s1 r1 => ⟨B, O, env, l, r.heap s1, hl, fun H2 s2 => ⟨B, O, env, u, (r.heap s1).heap s2, hu, fun H3 s3 => ?_⟩⟩⟩
  exact hr B O σ env v l u H3 x d Q (((r.heap s1).heap s2).heap s3) ((r1.same s2).same s3) e fun v' H' s' rv => q v' H' (((s1.trans s2).trans s3).trans s') rv
theorem se_slT {a : Expr} {da : Ex} {lo hi : Option Expr} {dl dh : DEnv → Option (Option Int)} {p2 pos : Pos} (ha : SE X τ a da) (hl : SO X lo dl) (hh : SO X hi dh) : SE X τ (.Subscript a (.Slice lo hi none p2) pos) (slE slcT da dl dh) :=
  (pe_slice (SlR.or sl_tupA sl_str) ha hl hh).weak fun σ H Q h => slT_of (fun B O σ env x lo hi H1 dx d Q rl r1 e q => by
    cases r1 <;> simp only [slcT, reduceCtorEq] at e
    · split at e
      · rename_i z hz
        cases e
        refine .inr ⟨_, rfl, szL_ok hz, ?_⟩
        have : cutS z lo hi = ⟨(PV.cut z.cps.toList lo hi).toArray⟩ := by
          unfold cutS PV.cut
          have hl : z.cps.toList.length = z.length := by simp [Str.length]
          rw [hl]
          rfl
        rw [this]
        exact q _ H1 (Same.refl H1) (.str _)
      · cases e
    · rename_i a xs ds h t
      cases e
      refine .inl ⟨a, xs, rfl, .inl (.inl h), fun hw => ?_, fun _ p hp => q _ _ (same_upd hp) (.tup upd_same ((Reps.cut t).same (same_upd hp)))⟩
      have : PV.cut ds lo hi = ds := by
        have hw' : PV.six ds.length 0 lo = 0 ∧ PV.six ds.length ds.length hi = ds.length := by rw [← t.len]; exact hw
        unfold PV.cut
        rw [hw'.1, hw'.2]
        simp
      rw [this] at q
      exact q _ H1 (Same.refl H1) (.tup h t)
    · rename_i a ob xs ds h f t
      cases e
      refine .inl ⟨a, xs, rfl, .inl (.inr ⟨_, h⟩), fun hw => ?_, fun nw p hp => ?_⟩
      · have hw' : PV.six ds.length 0 lo = 0 ∧ PV.six ds.length ds.length hi = ds.length := by rw [← t.len]; exact hw
        rw [if_pos hw'] at q
        exact q _ H1 (Same.refl H1) (.ftup h f t)
      · have hw' : ¬ (PV.six ds.length 0 lo = 0 ∧ PV.six ds.length ds.length hi = ds.length) := by rw [← t.len]; exact nw
        rw [if_neg hw'] at q
        exact q _ _ (same_upd hp) (.tup upd_same ((Reps.cut t).same (same_upd hp)))) h
theorem sn_slL {a : Expr} {da : Ex} {lo hi : Option Expr} {dl dh : DEnv → Option (Option Int)} {p2 pos : Pos} (ha : SE X false a da) (hl : SO X lo dl) (hh : SO X hi dh) : SN X (.Subscript a (.Slice lo hi none p2) pos) (slE slcL da dl dh) :=
  (pe_slice sl_list ha hl hh).weak fun σ H Q ⟨B, O, env, d, r, e, q⟩ => by
  obtain ⟨x, hx, e⟩ := bnd e
  obtain ⟨l, hl, e⟩ := bnd e
  obtain ⟨u, hu, e⟩ := bnd e
  refine ⟨B, O, env, x, r, hx, fun v H1 s1 r1 => ⟨B, O, env, l, r.heap s1, hl, fun H2 s2 => ⟨B, O, env, u, (r.heap s1).heap s2, hu, fun H3 s3 => ?_⟩⟩⟩
  cases x <;> simp only [slcL, reduceCtorEq] at e
  obtain ⟨a, xs, rfl, ha, h, t⟩ := r1.lst_inv
  cases e
  have s13 := s2.trans s3
  refine ⟨a, xs, rfl, .inl (.inl (s13 _ _ h)), fun p hp => ?_⟩
  exact q p _ ((s1.trans s13).trans (same_upd hp)) (Same.free (s1.trans s13) hp) (.lst upd_same ((Reps.ne hp ((Reps.cut t).same s13)).same (same_upd hp)))
theorem tCB_of {K : PySem.W.Frag} {mg : Str → Option Value} {F : Fn} {da : Ax} {σ : L2.St} {H : Hp} {Q : VK} (h : tE K mg τ (cal F da) σ H Q) : tCB (rC mg F) (tA K mg τ da) σ H Q := by
  obtain ⟨B, O, env, d, r, e, q⟩ := h
  obtain ⟨ds, hd, e⟩ := bnd e
  exact ⟨B, O, env, ds, r, hd, fun vs H1 s1 r1 => ⟨_, ds, d, (r.heap s1).fr, r1, e, fun v H' s' rv => q v H' (s1.trans s') rv⟩⟩
theorem se_blt {F : Fn} {id : String} {x : Str} {e : Expr} {es : List Expr} {da : Ax} {p pos : Pos} (hc : CallR X (.builtin id) (rC X.mg F)) (hm : X.mg x = none) (hv : bootBuiltins x = some (.builtin id)) (ha : SA X τ (e :: es) da) (hg : Gl X x := by rfl) (hn : x ≠ "__name__" := by decide) (hdb : (x == ("__debug__" : Str)) = false := by decide)
    (he : starEach (e :: es) X.env = (false, eval e X.env) :: starEach es X.env := by rfl) (hpl : (backTo pos (starEach es X.env)).any (·.1) = false := by rfl) : SE X τ (.Call (.Name x p) (e :: es) [] pos) (cal F da) := (pe_callB hc hg hm hv ha hn hdb he hpl).weak fun _ _ _ h => tCB_of h
theorem se_bty {F : Fn} {T : String} {x : Str} {e : Expr} {es : List Expr} {da : Ax} {p pos : Pos} (hc : CallR X (.type T) (rC X.mg F)) (hm : X.mg x = none) (hv : bootBuiltins x = some (.type T)) (ha : SA X τ (e :: es) da) (hg : Gl X x := by rfl) (hn : x ≠ "__name__" := by decide) (hdb : (x == ("__debug__" : Str)) = false := by decide)
    (he : starEach (e :: es) X.env = (false, eval e X.env) :: starEach es X.env := by rfl) (hpl : (backTo pos (starEach es X.env)).any (·.1) = false := by rfl) : SE X τ (.Call (.Name x p) (e :: es) [] pos) (cal F da) := (pe_callTy hc hg hm hv ha hn hdb he hpl).weak fun _ _ _ h => tCB_of h
theorem f1_one {f : D → Option D} {ds : List D} {d : D} (h : f1 f ds = some d) : ∃ x, ds = [x] ∧ f x = some d := by
  unfold f1 at h
  split at h
  · exact ⟨_, rfl, h⟩
  · cases h
theorem reps_one {mg : Str → Option Value} {A : Addr → Prop} {H : Hp} {vs : List V} {x : D} (r : Reps mg A H vs [x]) : ∃ v, vs = [v] ∧ Rep mg A H v x := by
  cases r with
  | cons h t => cases t; exact ⟨_, rfl, h⟩
theorem cr_lenD : CallR X (.builtin "len") (rC X.mg (f1 lenD)) := by
  intro pins s σ H xs us Q I r ⟨A, ds, d, fr, r1, e, q⟩
  obtain ⟨x, rfl, e2⟩ := f1_one e
  clear e
  obtain ⟨v, rfl, rx⟩ := reps_one r1
  cases rx <;> simp only [lenD, reduceCtorEq] at e2
  · split at e2
    · rename_i hz
      cases e2
      exact call_len_str pins s σ H _ us Q I r ⟨_, rfl, szL_ok hz, q _ H (Same.refl H) (.int _)⟩
    · cases e2
  · rename_i a xs ds h t
    cases e2
    exact call_len_seq pins s σ H _ us Q I r ⟨a, xs, rfl, .inr (.inl (.inl h)), by rw [t.len]; exact q _ H (Same.refl H) (.int _)⟩
  · rename_i a xs ds ha h t
    cases e2
    exact call_len_seq pins s σ H _ us Q I r ⟨a, xs, rfl, .inl (.inl (.inl h)), by rw [t.len]; exact q _ H (Same.refl H) (.int _)⟩
  · rename_i a ns ha h
    cases e2
    exact call_len_seq pins s σ H _ us Q I r ⟨a, _, rfl, .inl (.inl h), by rw [List.length_map]; exact q _ H (Same.refl H) (.int _)⟩
  · rename_i a ob xs ds h f t
    cases e2
    exact call_len_seq pins s σ H _ us Q I r ⟨a, xs, rfl, .inr (.inl (.inr ⟨_, h⟩)), by rw [t.len]; exact q _ H (Same.refl H) (.int _)⟩
theorem cr_intD : CallR X (.type "int") (rC X.mg (f1 intD)) := by
  intro pins s σ H xs us Q I r ⟨A, ds, d, fr, r1, e, q⟩
  obtain ⟨x, rfl, e2⟩ := f1_one e
  clear e
  obtain ⟨v, rfl, rx⟩ := reps_one r1
  cases rx <;> simp only [intD, reduceCtorEq] at e2
  · rename_i b
    cases e2
    exact call_int1 pins s σ H _ us Q I r (.inr ⟨b, rfl, q _ H (Same.refl H) (.int _)⟩)
  · cases e2
    exact call_int1 pins s σ H _ us Q I r (.inl ⟨_, rfl, q _ H (Same.refl H) (.int _)⟩)
theorem ints_of {mg : Str → Option Value} {A : Addr → Prop} {H : Hp} : ∀ {vs : List V} {ds : List D} {ns : List Int}, Reps mg A H vs ds → intsOf ds = some ns → vs = ns.map V.int
  | _, _, _, .nil, e => by
    simp only [intsOf] at e
    cases e
    rfl
  | _, _, _, .cons h t, e => by
    cases h <;> simp only [intsOf, reduceCtorEq] at e
    obtain ⟨r, h1, h2⟩ := Option.map_eq_some_iff.mp e
    subst h2
    rw [List.map_cons, ← ints_of t h1]
theorem bls_of {mg : Str → Option Value} {A : Addr → Prop} {H : Hp} : ∀ {vs : List V} {ds : List D} {ns : List Bool}, Reps mg A H vs ds → blsOf ds = some ns → vs = ns.map V.bl
  | _, _, _, .nil, e => by
    simp only [blsOf] at e
    cases e
    rfl
  | _, _, _, .cons h t, e => by
    cases h <;> simp only [blsOf, reduceCtorEq] at e
    obtain ⟨r, h1, h2⟩ := Option.map_eq_some_iff.mp e
    subst h2
    rw [List.map_cons, ← bls_of t h1]
theorem cr_allL (hc : X.calm = true) : CallR X (.builtin "all") (rC X.mg (f1 allL)) := by
  intro pins s σ H xs us Q I r ⟨A, ds, d, fr, r1, e, q⟩
  obtain ⟨x, rfl, e2⟩ := f1_one e
  clear e
  obtain ⟨v, rfl, rx⟩ := reps_one r1
  cases rx <;> simp only [allL, reduceCtorEq] at e2
  rename_i a xs ds ha h t
  obtain ⟨ns, h1, h2⟩ := Option.map_eq_some_iff.mp e2
  subst h2
  have := bls_of t h1
  subst this
  exact cr_all hc pins s σ H _ us Q I r ⟨a, ns, rfl, .inl (.inl h), q _ H (Same.refl H) (.bl _)⟩
end
end PV

namespace PV
variable [LT] [RT]
open PySem PySem.Spec PyProof.Rows L2
section
variable {K : PySem.W.Frag} {mg : Str → Option Value} {A : Addr → Prop} {H H1 : Hp} {a b : Addr} {vs ws : List V} {ds es : List D}
abbrev Tr (A : Addr → Prop) (H1 : Hp) : Addr → Prop := fun a => A a ∧ ∃ o, H1 a = some o
theorem reps_tr (r : Reps mg A H1 vs ds) : Reps mg (Tr A H1) H1 vs ds := r.keepT fun a h o => ⟨h, o⟩
theorem walks_list (ha : A a) (h : H1 a = some (.lst vs)) (r : Reps mg A H1 vs ds) : Walks mg (Tr A H1) (Itl K a) ds H1 := by
  intro i H k
  have hq : SqL K H a vs := .inl (.inl (k.lst a vs ⟨ha, _, h⟩ h))
  refine ⟨fun x e => ?_, fun e => ?_⟩
  · obtain ⟨v, h1, h2⟩ := (reps_tr r).get e
    refine ⟨⟨vs, v, hq, h1⟩, fun v' H' y => ?_⟩
    obtain ⟨e1, e2⟩ := y
    subst e1
    have := e2 vs hq
    rw [h1] at this
    cases this
    exact ⟨Same.refl _, h2.mono (fun _ z => z) k⟩
  · refine ⟨vs, hq, ?_⟩
    rw [r.len]
    exact List.getElem?_eq_none_iff.mp e
theorem walks_tup (h : H1 a = some (.tup vs)) (r : Reps mg A H1 vs ds) : Walks mg (Tr A H1) (Itt K a) ds H1 := by
  intro i H k
  have hq : SqT K H a vs := .inl (.inl (k.tup a vs h))
  refine ⟨fun x e => ?_, fun e => ?_⟩
  · obtain ⟨v, h1, h2⟩ := (reps_tr r).get e
    refine ⟨⟨vs, v, hq, h1⟩, fun v' H' y => ?_⟩
    obtain ⟨e1, e2⟩ := y
    subst e1
    have := e2 vs hq
    rw [h1] at this
    cases this
    exact ⟨Same.refl _, h2.mono (fun _ z => z) k⟩
  · refine ⟨vs, hq, ?_⟩
    rw [r.len]
    exact List.getElem?_eq_none_iff.mp e
theorem walks_ftup {o : Obj} (h : H1 a = some (.frz o (.tup vs))) (r : Reps mg A H1 vs ds) : Walks mg (Tr A H1) (Itt K a) ds H1 := by
  intro i H k
  have hq : SqT K H a vs := .inl (.inr ⟨o, k.fz a o vs h⟩)
  refine ⟨fun x e => ?_, fun e => ?_⟩
  · obtain ⟨v, h1, h2⟩ := (reps_tr r).get e
    refine ⟨⟨vs, v, hq, h1⟩, fun v' H' y => ?_⟩
    obtain ⟨e1, e2⟩ := y
    subst e1
    have := e2 vs hq
    rw [h1] at this
    cases this
    exact ⟨Same.refl _, h2.mono (fun _ z => z) k⟩
  · refine ⟨vs, hq, ?_⟩
    rw [r.len]
    exact List.getElem?_eq_none_iff.mp e
theorem walks_range {lo : Int} {n : Nat} : Walks mg A (Itr lo n) ((List.range n).map fun (k : Nat) => D.int (lo + (k : Int))) H1 := by
  intro i H k
  refine ⟨fun x e => ?_, fun e => ?_⟩
  · have hi : i < n := by
      have := (List.getElem?_eq_some_iff.mp e).1
      simpa using this
    refine ⟨hi, fun v' H' y => ?_⟩
    obtain ⟨e1, e2⟩ := y
    subst e1 e2
    rw [List.getElem?_map, List.getElem?_range hi] at e
    cases e
    exact ⟨Same.refl _, .int _⟩
  · have := List.getElem?_eq_none_iff.mp e
    show n ≤ i
    simpa using this
end
section
variable {X : Cx} {τ : Bool}
theorem si_list {tg e : Expr} {de : Ex} (h : SE X false e de) : SI X tg e (iLst de) := (pi_list h).weak fun σ H R ⟨B, O, env, ds, r, e, q⟩ => by
  obtain ⟨d, hd, h2⟩ := bnd e
  refine ⟨B, O, env, d, r, hd, fun v H1 s1 r1 => ?_⟩
  cases d <;> simp only [reduceCtorEq] at h2
  cases h2
  obtain ⟨a, xs, rfl, ha, h, t⟩ := r1.lst_inv
  exact ⟨a, rfl, ⟨xs, .inl (.inl h)⟩, q _ H1 s1 (walks_list ha h t)⟩
theorem si_tup {tg e : Expr} {de : Ex} (h : SE X false e de) : SI X tg e (iTp de) := (pi_tup h).weak fun σ H R ⟨B, O, env, ds, r, e, q⟩ => by
  obtain ⟨d, hd, h2⟩ := bnd e
  refine ⟨B, O, env, d, r, hd, fun v H1 s1 r1 => ?_⟩
  cases d <;> simp only [reduceCtorEq] at h2
  · cases h2
    obtain ⟨a, xs, rfl, h, t⟩ := r1.tup_inv
    exact ⟨a, rfl, ⟨xs, .inl (.inl h)⟩, q _ H1 s1 (walks_tup h t)⟩
  · cases h2
    obtain ⟨a, o, xs, rfl, h, _, t⟩ := r1.ftup_inv
    exact ⟨a, rfl, ⟨xs, .inl (.inr ⟨o, h⟩)⟩, q _ H1 s1 (walks_ftup h t)⟩
theorem si_rng1 {tg a : Expr} {da : Ax} {p pos : Pos} (hm : X.mg "range" = none) (ha : SA X true [a] da) (hg : Gl X "range" := by rfl) (hs : starEach [a] X.env = [(false, eval a X.env)] := by rfl) : SI X tg (.Call (.Name "range" p) [a] [] pos) (iRng (one1 da)) :=
  (pi_range1 hg hm ha hs).weak fun σ H R ⟨B, O, env, ds, r, e, q⟩ => by
  obtain ⟨l, hl, h2⟩ := bnd e
  obtain ⟨l', hl', h3⟩ := bnd hl
  split at h3
  · cases h3
    rename_i d
    refine ⟨B, O, env, [d], r, hl', fun vs H1 s1 r1 => ?_⟩
    obtain ⟨v, rfl, rv⟩ := reps_one r1
    cases d <;> simp only [rngL, reduceCtorEq] at h2
    split at h2
    · rename_i n hz
      cases h2
      cases rv
      simp only [decide_eq_true_eq] at hz
      refine ⟨n, rfl, hz.1, hz.2, q _ H1 s1 ?_⟩
      have := walks_range (mg := X.mg) (A := fun a => Lv B O false a ∧ ∃ o, H1 a = some o) (H1 := H1) (lo := 0) (n := n.toNat)
      simpa using this
    · cases h2
  · cases h3
theorem wip_get {e : DEnv} {x : DSlot} : ∀ {ws : List Nat} {i : Nat}, (wip e ws)[i]? = some x → x = .no ∨ (e[i]? = some x ∧ i ∉ ws)
  | [], i, h => .inr ⟨h, by simp⟩
  | w :: ws, i, h => by
    unfold wip at h
    rcases get_set h with ⟨rfl, rfl, _⟩ | ⟨hi, h⟩
    · exact .inl rfl
    · rcases wip_get h with z | ⟨z, n⟩
      · exact .inl z
      · exact .inr ⟨z, by simp [hi, n]⟩
theorem wip_len {e : DEnv} : ∀ {ws : List Nat}, (wip e ws).length = e.length
  | [] => rfl
  | w :: ws => by unfold wip; rw [List.length_set, wip_len]
theorem wipe_get {σ : L2.St} {i : Nat} : ∀ {ws : List Nat}, i ∉ ws → (wipe σ ws)[i]? = σ[i]?
  | [], _ => rfl
  | w :: ws, h => by
    simp only [List.mem_cons, not_or] at h
    unfold wipe
    rw [List.getElem?_set_ne (Ne.symm h.1), wipe_get h.2]
theorem ERel.noO {K : PySem.W.Frag} {mg : Str → Option Value} {B : Bs} {O : Nat → Option Addr} {σ : L2.St} {H : Hp} {env : DEnv} (r : ERel K mg B O σ H env) {ws : List Nat} (hn : noOwn env ws = true) {i : Nat} (hi : i ∈ ws) (hl : i < env.length) : O i = none := by
  cases e : O i with
  | none => rfl
  | some p =>
    have := List.all_eq_true.mp hn i hi
    obtain ⟨d, h | h⟩ := r.nst i p e hl <;> (rw [h] at this; cases this)
theorem ERel.wip {K : PySem.W.Frag} {mg : Str → Option Value} {B : Bs} {O : Nat → Option Addr} {σ : L2.St} {H : Hp} {env : DEnv} (r : ERel K mg B O σ H env) (ws : List Nat) (hn : noOwn env ws = true) : ERel K mg B O (wipe σ ws) H (PV.wip env ws) := by
  refine ⟨by rw [wip_len, wipe_length]; exact r.len, r.same, fun i d e => ?_, fun i d e => ?_, fun i d e => ?_, r.inj, r.trk, r.fr0, r.bd, fun i p a hl => ?_⟩
  · rcases wip_get e with z | ⟨z, n⟩
    · cases z
    · rw [wipe_get n]; exact r.vals i d z
  · rcases wip_get e with z | ⟨z, n⟩
    · cases z
    · rw [wipe_get n]; exact r.owns i d z
  · rcases wip_get e with z | ⟨z, n⟩
    · cases z
    · rw [wipe_get n]; exact r.slfs i d z
  · rw [wip_len] at hl
    have nw : i ∉ ws := fun hi => by
      rw [r.noO hn hi hl] at a; cases a
    have : ∀ (us : List Nat), i ∉ us → (PV.wip env us)[i]? = env[i]? := by
      intro us
      induction us with
      | nil => intro _; rfl
      | cons u us ih =>
        intro h
        simp only [List.mem_cons, not_or] at h
        show ((PV.wip env us).set u .no)[i]? = _
        rw [List.getElem?_set_ne (Ne.symm h.1), ih h.2]
    rw [this ws nw]
    exact r.nst i p a hl
theorem ERel.more {K : PySem.W.Frag} {mg : Str → Option Value} {B : Bs} {O : Nat → Option Addr} {σ : L2.St} {H : Hp} {env : DEnv} {p : Addr} {o : HO} (r : ERel K mg B O σ H env) (hp : H p = none) (w : Wr o) :
    ∃ n, env.length ≤ n ∧ ERel K mg B (putO O n p) σ (upd H p o) env ∧ ∀ τ a, Lv B (putO O n p) τ a → Lv B O τ a := by
  obtain ⟨n0, hn0⟩ := r.bd
  have hn : O (n0 + env.length) = none := hn0 _ (by omega)
  have h0 : B.H0 p = none := Same.free r.same hp
  have nO : ∀ j, O j ≠ some p := fun j e => by
    obtain ⟨o, z, _⟩ := r.trk j p e
    rw [hp] at z; cases z
  have s := same_upd (o := o) hp
  have lt : ∀ {i : Nat} {x : DSlot}, env[i]? = some x → i ≠ n0 + env.length := fun {i x} e => by
    have := (List.getElem?_eq_some_iff.mp e).1
    omega
  have up : ∀ a, (Lv B O false a ∧ a ≠ p) → Lv B (putO O (n0 + env.length) p) false a := fun a h => ⟨h.1.1, .inr fun j e => by
    unfold putO at e
    split at e
    · exact h.2 (Option.some.inj e).symm
    · exact (h.1.2.elim (fun z => Bool.noConfusion z) fun z => z) j e⟩
  have put : ∀ {i : Nat} {q : Addr}, i ≠ n0 + env.length → O i = some q → putO O (n0 + env.length) p i = some q := fun {i q} h e => by unfold putO; rw [if_neg h]; exact e
  have ow : ∀ {q : Addr} {d : D}, Own mg (Lv B O false) H q d → Own mg (Lv B (putO O (n0 + env.length) p) false) (upd H p o) q d := fun {q d} h4 => by
    cases h4 with
    | lst h r => exact .lst (s _ _ h) (((Reps.ne hp r).mono up keepRefl).same s)
    | dicK h r => exact .dicK (s _ _ h) (((Reps.ne hp r).mono up keepRefl).same s)
    | dicT h r => exact .dicT (s _ _ h) (((Reps.ne hp r).mono up keepRefl).same s)
    | ins h c r => exact .ins (s _ _ h) c (((Reps.ne hp r).mono up keepRefl).same s)
  refine ⟨n0 + env.length, by omega, ⟨r.len, r.same.trans s, fun i d e => ?_, fun i d e => ?_, fun i d e => ?_, fun j k q a b => ?_, fun j q a => ?_, fun j q a => ?_, bd_put r.bd, fun j q a hl => r.nst j q (by unfold putO at a; rw [if_neg (by omega)] at a; exact a) hl⟩, fun τ a h => ⟨h.1, h.2.elim .inl fun z => .inr fun j e => ?_⟩⟩
  · obtain ⟨v, h1, h2⟩ := r.vals i d e
    exact ⟨v, h1, ((Rep.ne hp h2).mono up keepRefl).same s⟩
  · obtain ⟨q, h1, h2, h3, h4⟩ := r.owns i d e
    exact ⟨q, put (lt e) h1, h2, h3, ow h4⟩
  · obtain ⟨h1, h2, h4⟩ := r.slfs i d e
    exact ⟨put (lt e) h1, h2, ow h4⟩
  · unfold putO at a b
    split at a <;> split at b
    · rename_i e1 e2; exact e1.trans e2.symm
    · cases a; exact absurd b (nO _)
    · cases b; exact absurd a (nO _)
    · exact r.inj j k q a b
  · unfold putO at a
    split at a
    · cases a; exact ⟨o, upd_same, w⟩
    · obtain ⟨o', z, w'⟩ := r.trk j q a
      haveI := Wr.nt w'
      exact ⟨o', s _ _ z, w'⟩
  · unfold putO at a
    split at a
    · cases a; exact h0
    · exact r.fr0 j q a
  · by_cases ej : j = n0 + env.length
    · subst ej; rw [hn] at e; cases e
    · exact z j (put ej e)
theorem wipe_idem {e : L2.St} : ∀ {vs : List Nat}, wipe (wipe e vs) vs = wipe e vs := by
  have aux : ∀ (us : List Nat) (e : L2.St), (∀ i ∈ us, e[i]? = some none ∨ e[i]? = none) → wipe e us = e := by
    intro us
    induction us with
    | nil => intro e _; rfl
    | cons u us ih =>
      intro e h
      show (wipe e us).set u none = e
      rw [ih e fun i hi => h i (List.mem_cons_of_mem _ hi)]
      apply List.ext_getElem?
      intro j
      by_cases hj : j = u
      · subst hj
        rcases h j List.mem_cons_self with z | z
        · have hl := (List.getElem?_eq_some_iff.mp z).1
          rw [List.getElem?_set_self hl, z]
        · rw [z, List.getElem?_eq_none]
          have := List.getElem?_eq_none_iff.mp z
          simpa using this
      · rw [List.getElem?_set_ne (Ne.symm hj)]
  intro vs
  refine aux vs _ fun i hi => ?_
  cases z : (wipe e vs)[i]? with
  | none => exact .inr rfl
  | some x =>
    cases x with
    | none => exact .inl rfl
    | some v => exact absurd hi (wipe_some z).2
theorem ERel.poke {K : PySem.W.Frag} {mg : Str → Option Value} {B : Bs} {H : Hp} {O : Nat → Option Addr} {σ : L2.St} {env : DEnv} {n : Nat} {p : Addr} {o' : HO} (r : ERel K mg B O σ H env) (hO : O n = some p) (hn : env.length ≤ n) (hw : Wr o') : ERel K mg B O σ (upd H p o') env := by
  have k : Keep (Lv B O false) H (upd H p o') := keep_write r hO
  have h0 := r.fr0 n p hO
  have lt : ∀ {i : Nat} {x : DSlot}, env[i]? = some x → i ≠ n := fun {i x} e => by
    have := (List.getElem?_eq_some_iff.mp e).1
    omega
  obtain ⟨o0, hp0, w0⟩ := r.trk n p hO
  refine ⟨r.len, r.same.put h0 hp0 w0, fun i d e => let ⟨v, h1, h2⟩ := r.vals i d e; ⟨v, h1, h2.mono (fun _ z => z) k⟩, fun i d e => ?_, fun i d e => ?_, r.inj, fun j q a => ?_, r.fr0, r.bd, r.nst⟩
  · obtain ⟨q, h1, h2, h3, h4⟩ := r.owns i d e
    have nq : q ≠ p := fun z => lt e (r.inj i n p (z ▸ h1) hO)
    exact ⟨q, h1, h2, h3, h4.mono (fun _ z => z) k fun o z _ => by rw [upd_ne nq]; exact z⟩
  · obtain ⟨h1, h2, h4⟩ := r.slfs i d e
    have nq : B.sf ≠ p := fun z => lt e (r.inj i n p (z ▸ h1) hO)
    exact ⟨h1, h2, h4.mono (fun _ z => z) k fun o z _ => by rw [upd_ne nq]; exact z⟩
  · by_cases e : q = p
    · subst e; exact ⟨o', upd_same, hw⟩
    · obtain ⟨o, z, w⟩ := r.trk j q a
      exact ⟨o, by rw [upd_ne e]; exact z, w⟩
theorem off_id {O : Nat → Option Addr} {i : Nat} (h : O i = none) : offO O i = O := by
  funext j
  unfold offO
  split
  · rename_i e; rw [e, h]
  · rfl
mutual
theorem tgR_oks {K : PySem.W.Frag} {mg : Str → Option Value} {B : Bs} : ∀ (g : Tg) {O : Nat → Option Addr} {σ : L2.St} {env env' : DEnv} {v : V} {d : D} {H : Hp} {Q : L2.St → Hp → Prop}, ERel K mg B O σ H env → (∀ i ∈ g.slots, O i = none) → Rep mg (Lv B O false) H v d → gD g d env = some env' →
    (∀ σ', ERel K mg B O σ' H env' → Only1 σ σ' g.slots → Q σ' H) → tgR K g v σ H Q
  | .n i, O, σ, env, env', v, d, H, Q, r, hn, rv, e, q => by
    simp only [gD, Option.some.injEq] at e
    subst e
    have z := ERel.set (i := i) r rv
    rw [off_id (hn i (by simp [Tg.slots]))] at z
    exact q _ z fun vs hv => wipe_set (hv i (by simp [Tg.slots]))
  | .t l, O, σ, env, env', v, d, H, Q, r, hn, rv, e, q => by
    cases d <;> simp only [gD, reduceCtorEq] at e
    obtain ⟨a, xs, rfl, hs, rs⟩ := rv.tup_inv
    exact ⟨a, xs, rfl, .inl (.inl hs), by rw [rs.len]; exact gDs_len e, tgRs_oks l r (fun i hi => hn i (by simpa [Tg.slots] using hi)) rs e fun σ' r' w => q σ' r' (by simpa only [Tg.slots] using w)⟩
theorem tgRs_oks {K : PySem.W.Frag} {mg : Str → Option Value} {B : Bs} : ∀ (l : List Tg) {O : Nat → Option Addr} {σ : L2.St} {env env' : DEnv} {vs : List V} {ds : List D} {H : Hp} {Q : L2.St → Hp → Prop}, ERel K mg B O σ H env → (∀ i ∈ Tg.slotss l, O i = none) → Reps mg (Lv B O false) H vs ds → gDs l ds env = some env' →
    (∀ σ', ERel K mg B O σ' H env' → Only1 σ σ' (Tg.slotss l) → Q σ' H) → tgRs K l vs σ H Q
  | [], O, σ, env, env', vs, ds, H, Q, r, hn, rs, e, q => by
    cases ds with
    | nil =>
      simp only [gDs, Option.some.injEq] at e
      subst e
      cases rs
      exact ⟨rfl, q _ r fun _ _ => rfl⟩
    | cons _ _ => simp [gDs] at e
  | g :: gs, O, σ, env, env', vs, ds, H, Q, r, hn, rs, e, q => by
    cases ds with
    | nil => simp [gDs] at e
    | cons d ds =>
      simp only [gDs] at e
      obtain ⟨e1, h1, h2⟩ := bnd e
      cases rs with
      | cons rv rs =>
        refine ⟨_, _, rfl, tgR_oks g r (fun i hi => hn i (by simp [Tg.slotss, hi])) rv h1 fun σ1 r1 w1 => ?_⟩
        refine tgRs_oks gs r1 (fun i hi => hn i (by simp [Tg.slotss, hi])) rs h2 fun σ2 r2 w2 => q _ r2 fun vs hv => ?_
        simp only [Tg.slotss, List.mem_append] at hv
        rw [w2 vs fun i hi => hv i (.inr hi), w1 vs fun i hi => hv i (.inl hi)]
end
theorem lc_of {K : PySem.W.Frag} {mg : Str → Option Value} {di : Ax} {g : Tg} {dt : Tx} {tt : TT} {te : Ex} {ws : List Nat} {σ : L2.St} {H : Hp} {Q : VK} (hw : ∀ i ∈ g.slots, i ∈ ws)
    (htt : ∀ B O σ env b H Q, ERel K mg B O σ H env → dt env = some b → (∀ H', Same H H' → Q b H') → tt σ H Q)
    (h : tN K mg (lcE di g dt te ws) σ H Q) : tLc (tI K mg di) (tgR K g) tt (tE K mg false te) ws σ H Q := by
  obtain ⟨B, O, env, d, rl, e, q⟩ := h
  obtain ⟨xs, hx, e⟩ := bnd e
  split at e
  · rename_i hz
    obtain ⟨hz, hno⟩ := hz
    obtain ⟨ys, hr, e⟩ := bnd e
    cases e
    refine ⟨B, O, env, xs, rl, hx, fun J H1 s1 wk => fun D hD => ?_⟩
    have rl1 := rl.heap s1
    have hws : ∀ i ∈ ws, i < σ.length := fun i hi => by
      have z := List.all_eq_true.mp hno i hi
      rw [← rl.len]
      cases e : (env[i]? : Option DSlot) with
      | none => rw [e] at z; cases z
      | some x => exact (List.getElem?_eq_some_iff.mp e).1
    have noO : ∀ i ∈ ws, O i = none := fun i hi => rl.noO hno hi (by rw [rl.len]; exact hws i hi)
    obtain ⟨n, hnl, rm, sub⟩ := (rl1.wip ws hno).more (o := .lst []) hD trivial
    have hOn : putO O n D n = some D := by unfold putO; rw [if_pos rfl]
    have hlen : (PV.wip env ws).length = σ.length := by rw [wip_len]; exact rl.len
    have noP : ∀ i ∈ g.slots, putO O n D i = none := fun i hi => by
      have := hws i (hw i hi)
      unfold putO
      rw [if_neg (by omega)]
      exact noO i (hw i hi)
    refine ⟨fun i m H' => m = xs.length - i ∧ i ≤ xs.length ∧ ∃ vs ys1 ys2, H' D = some (.lst vs) ∧ ERel K mg B (putO O n D) (wipe σ ws) H' (PV.wip env ws) ∧ Reps mg (Lv B (putO O n D) false) H' vs ys1 ∧ ys1.length ≤ i ∧ lcRun (gD g) dt te (PV.wip env ws) (xs.drop i) = some ys2 ∧ ys = ys1 ++ ys2 ∧ Same H1 H',
      ⟨xs.length, by simp, Nat.zero_le _, [], [], ys, upd_same, rm, .nil, Nat.le_refl _, by simpa using hr, rfl, same_upd hD⟩, ?_⟩
    rintro i m H' ⟨rfl, hi', vs, ys1, ys2, hHD, rl', rs, hly, hrun, hys, sm⟩
    by_cases hlt : i < xs.length
    · have hxi : xs[i]? = some xs[i] := List.getElem?_eq_getElem hlt
      obtain ⟨go, yl⟩ := (wk i H' (Same.keep sm)).1 _ hxi
      rw [List.drop_eq_getElem_cons hlt] at hrun
      unfold lcRun at hrun
      obtain ⟨e1, he1, hrun⟩ := bnd hrun
      obtain ⟨c, hc, hrun⟩ := bnd hrun
      refine .inr ⟨go, fun H'' => ∃ vs ys1 ys2, H'' D = some (.lst vs) ∧ ERel K mg B (putO O n D) (wipe σ ws) H'' (PV.wip env ws) ∧ Reps mg (Lv B (putO O n D) false) H'' vs ys1 ∧ ys1.length ≤ i + 1 ∧ lcRun (gD g) dt te (PV.wip env ws) (xs.drop (i + 1)) = some ys2 ∧ ys = ys1 ++ ys2 ∧ Same H1 H'',
        fun H'' z => ⟨xs.length - (i + 1), by omega, rfl, hlt, z⟩, fun v H3 y => ?_⟩
      obtain ⟨s3, rv⟩ := yl v H3 y
      have rl3 := rl'.heap s3
      have rv' : Rep mg (Lv B (putO O n D) false) H3 v xs[i] := rv.mono (fun a ha => ⟨ha.1.1, .inr fun j z => by
        unfold putO at z
        split at z
        · cases z
          obtain ⟨o, ho⟩ := ha.2
          rw [hD] at ho; cases ho
        · exact ha.1.2.elim (fun z => Bool.noConfusion z) fun w => w j z⟩) keepRefl
      refine tgR_oks g rl3 noP rv' he1 fun σ4 r4 w4 => ⟨by rw [w4 ws hw]; exact wipe_idem, ?_⟩
      refine htt B _ σ4 e1 c H3 _ r4 hc fun H5 s5 => ?_
      cases c with
      | true =>
        obtain ⟨yv, hyv, hrun⟩ := bnd hrun
        obtain ⟨ys', hys', hrun⟩ := bnd hrun
        cases hrun
        refine iteT ⟨B, _, e1, yv, r4.heap s5, hyv, fun w H6 s6 rw6 => ?_⟩
        have s36 := s3.trans (s5.trans s6)
        have hD6 : H6 D = some (.lst vs) := s36 _ _ hHD
        have rl6 := rl'.heap s36
        refine ⟨vs, hD6, ?_, vs ++ [w], ys1 ++ [yv], ys', upd_same, rl6.poke hOn (by omega) trivial, ?_, by simp; omega, hys', by rw [hys]; simp, ?_⟩
        · have : vs.length ≤ i := by rw [rs.len]; exact hly
          have hz' := szL_ok hz
          omega
        · have k := keep_write (o' := .lst (vs ++ [w])) rl6 hOn
          exact ((rs.same s36).mono (fun _ z => z) k).append (.cons (rw6.mono (fun _ z => z) k) .nil)
        · exact (sm.trans s36).put hD hD6 trivial
      | false =>
        have s35 := s3.trans s5
        exact iteF ⟨vs, ys1, ys2, s35 _ _ hHD, rl'.heap s35, rs.same s35, by omega, hrun, hys, sm.trans s35⟩
    · have hn : xs[i]? = none := List.getElem?_eq_none (by omega)
      have hdr : xs.drop i = [] := List.drop_eq_nil_of_le (by omega)
      rw [hdr] at hrun
      unfold lcRun at hrun
      cases hrun
      rw [List.append_nil] at hys
      subst hys
      refine .inl ⟨(wk i H' (Same.keep sm)).2 hn, ?_⟩
      refine q D H' (s1.trans sm) (Same.free s1 hD) (.lst hHD (rs.mono (fun a ha => ⟨sub false a ha, fun z => ?_⟩) keepRefl))
      subst z
      exact ha.2.elim (fun z => Bool.noConfusion z) fun w => w n hOn
  · cases e
theorem sn_lc {elt tg iter : Expr} {scope : Scope} {own : List (Str × Nat)} {pos : Pos} {di : Ax} {g : Tg} {te : Ex} (hc : X.calm = true) (hN : X.N.Nodup) (hi : SI X tg iter di) (ok : BlkOk X.N X.env.scope scope own)
    (hg : ∀ (s : Shared) (H : Hp) (C : Addr) (cl : List (Str × Addr)) (fp : List Addr), PT1 (X.blk s H scope (compEnvC scope cl C X.env) fp) tg g)
    (he : ∀ (s : Shared) (H : Hp) (C : Addr) (cl : List (Str × Addr)) (fp : List Addr), SE (X.blk s H scope (compEnvC scope cl C X.env) fp) false elt te) (hw : ∀ i ∈ g.slots, i ∈ own.map (·.2) := by decide) (hs : ∀ x, foldedSetIterable iter X.env x = pure x := by intro _; rfl) {ws : List Nat} (hws : own.map (·.2) = ws := by rfl) :
    SN X (.ListComp elt [⟨tg, iter, [], 0⟩] scope pos) (lcE di g yes te ws) := by
  subst hws
  exact (pe_lc (te := tE X.K X.mg false te) hc hN hi ok (g := tgR X.K g) hg (fun _ _ _ _ _ => pts_nil) he hs).weak fun σ H Q h => lc_of hw (fun B O σ env b H Q _ e q => by cases e; exact q H (Same.refl H)) h
theorem sn_lcI {elt tg iter t : Expr} {scope : Scope} {own : List (Str × Nat)} {pos : Pos} {di : Ax} {g : Tg} {te : Ex} {dt : Tx} (hc : X.calm = true) (hN : X.N.Nodup) (hi : SI X tg iter di) (ok : BlkOk X.N X.env.scope scope own)
    (hg : ∀ (s : Shared) (H : Hp) (C : Addr) (cl : List (Str × Addr)) (fp : List Addr), PT1 (X.blk s H scope (compEnvC scope cl C X.env) fp) tg g)
    (ht : ∀ (s : Shared) (H : Hp) (C : Addr) (cl : List (Str × Addr)) (fp : List Addr), ST (X.blk s H scope (compEnvC scope cl C X.env) fp) t dt)
    (he : ∀ (s : Shared) (H : Hp) (C : Addr) (cl : List (Str × Addr)) (fp : List Addr), SE (X.blk s H scope (compEnvC scope cl C X.env) fp) false elt te) (hw : ∀ i ∈ g.slots, i ∈ own.map (·.2) := by decide) (hs : ∀ x, foldedSetIterable iter X.env x = pure x := by intro _; rfl) {ws : List Nat} (hws : own.map (·.2) = ws := by rfl) :
    SN X (.ListComp elt [⟨tg, iter, [t], 0⟩] scope pos) (lcE di g dt te ws) := by
  subst hws
  exact (pe_lc (te := tE X.K X.mg false te) (tt := tT X.K X.mg dt) hc hN hi ok (g := tgR X.K g) hg (fun s H C cl fp => pts_one (ht s H C cl fp)) he hs).weak fun σ H Q h => lc_of hw (fun B O σ env b H Q r e q => ⟨B, O, env, b, r, e, q⟩) h
theorem set_of {K : PySem.W.Frag} {mg : Str → Option Value} {D : Ends} {σ : L2.St} {H : Hp} {i : Nat} {de : Ex} (h : tS K mg (setE i de) D σ H) : tN K mg de σ H (fun x H1 => gName i x σ H1 D.nx) := by
  obtain ⟨B, O, env, r, rl, h1, q⟩ := h
  obtain ⟨d, hd, h2⟩ := bnd h1
  cases h2
  exact ⟨B, O, env, d, rl, hd, fun p H1 s hp o => q _ H1 _ (ERel.set (rl.heap s) (o.rep (fun _ z => z.1) (rl.fr p hp))) ((Fm.of_same s).trans (Fm.of_same (Same.refl H1)).off)⟩
section
variable {elt tg iter t : Expr} {scope : Scope} {own : List (Str × Nat)} {pos spos py : Pos} {di : Ax} {g : Tg} {te : Ex} {dt : Tx} {i : Nat} {y : Str}
theorem s_setLc (hc : X.calm = true) (hN : X.N.Nodup) (hsw : swapsWith (.ListComp elt [⟨tg, iter, [], 0⟩] scope pos) (some (.Name y py)) spos.line X.env = pure true) (hi : SI X tg iter di) (ok : BlkOk X.N X.env.scope scope own)
    (hg : ∀ (s : Shared) (H : Hp) (C : Addr) (cl : List (Str × Addr)) (fp : List Addr), PT1 (X.blk s H scope (compEnvC scope cl C X.env) fp) tg g)
    (he : ∀ (s : Shared) (H : Hp) (C : Addr) (cl : List (Str × Addr)) (fp : List Addr), SE (X.blk s H scope (compEnvC scope cl C X.env) fp) false elt te) (hy : X.N[i]? = some y := by rfl) (hyl : X.env.scope.names.lookup y = some .local := by rfl) (hw : ∀ i ∈ g.slots, i ∈ own.map (·.2) := by decide) (hs : ∀ x, foldedSetIterable iter X.env x = pure x := by intro _; rfl) {ws : List Nat} (hws : own.map (·.2) = ws := by rfl) :
    SS X (.Assign [.Name y py] (.ListComp elt [⟨tg, iter, [], 0⟩] scope pos) spos) (setE i (lcE di g yes te ws)) := by
  subst hws
  exact (ps_setLc (te := tE X.K X.mg false te) hc hN hy hyl hsw hi ok (g := tgR X.K g) hg (fun _ _ _ _ _ => pts_nil) he hs).weak fun D σ H h => lc_of hw (fun B O σ env b H Q _ e q => by cases e; exact q H (Same.refl H)) (set_of h)
theorem s_setLcI (hc : X.calm = true) (hN : X.N.Nodup) (hsw : swapsWith (.ListComp elt [⟨tg, iter, [t], 0⟩] scope pos) (some (.Name y py)) spos.line X.env = pure true) (hi : SI X tg iter di) (ok : BlkOk X.N X.env.scope scope own)
    (hg : ∀ (s : Shared) (H : Hp) (C : Addr) (cl : List (Str × Addr)) (fp : List Addr), PT1 (X.blk s H scope (compEnvC scope cl C X.env) fp) tg g)
    (ht : ∀ (s : Shared) (H : Hp) (C : Addr) (cl : List (Str × Addr)) (fp : List Addr), ST (X.blk s H scope (compEnvC scope cl C X.env) fp) t dt)
    (he : ∀ (s : Shared) (H : Hp) (C : Addr) (cl : List (Str × Addr)) (fp : List Addr), SE (X.blk s H scope (compEnvC scope cl C X.env) fp) false elt te) (hy : X.N[i]? = some y := by rfl) (hyl : X.env.scope.names.lookup y = some .local := by rfl) (hw : ∀ i ∈ g.slots, i ∈ own.map (·.2) := by decide) (hs : ∀ x, foldedSetIterable iter X.env x = pure x := by intro _; rfl) {ws : List Nat} (hws : own.map (·.2) = ws := by rfl) :
    SS X (.Assign [.Name y py] (.ListComp elt [⟨tg, iter, [t], 0⟩] scope pos) spos) (setE i (lcE di g dt te ws)) := by
  subst hws
  exact (ps_setLc (te := tE X.K X.mg false te) (tt := tT X.K X.mg dt) hc hN hy hyl hsw hi ok (g := tgR X.K g) hg (fun s H C cl fp => pts_one (ht s H C cl fp)) he hs).weak fun D σ H h => lc_of hw (fun B O σ env b H Q r e q => ⟨B, O, env, b, r, e, q⟩) (set_of h)
end
theorem s_app {i : Nat} {x : Str} {e : Expr} {de : Ex} {px apos cpos pos : Pos} (he : SE X false e de) (hN : X.N[i]? = some x := by rfl) (hv : Vis X.env.scope x := by first | exact Or.inl rfl | exact Or.inr (Or.inl rfl) | exact Or.inr (Or.inr rfl)) (hd : (x == ("__debug__" : Str)) = false := by decide)
    (hcd : (x == ("__classdict__" : Str)) = false := by decide) (hbase : attributeBase (.Name x px) "append" X.env (eval (.Name x px) X.env) = eval (.Name x px) X.env := by rfl)
    (hfew : ((backTo cpos (starEach (e :: []) X.env)).all (fun x => !x.1) && (backToKw cpos (keywordEach [] X.env)).all (fun x => x.1.isSome)
      && decide ((e :: []).length + ([] : List Keyword).length + (if ([] : List Keyword).isEmpty then 0 else 1) < 30)) = true := by rfl)
    (hline : (apos.endLine == cpos.line) = true := by rfl) (hs : starEach (e :: []) X.env = (false, eval e X.env) :: starEach [] X.env := by rfl) (hplain : (backTo cpos (starEach [] X.env)).any (·.1) = false := by rfl)
    (hsw : swapsWith (.Call (.Attribute (.Name x px) "append" apos) [e] [] cpos) none pos.line X.env = pure false := by rfl) :
    SS X (.Expr (.Call (.Attribute (.Name x px) "append" apos) [e] [] cpos) pos) (app i de) :=
  (ps_expr (pe_bm PySem.F.plainAttrs_list PySem.F.slot_list_append PySem.F.type_list_append mt_append (pe_var hN hv hd hcd) (pa_cons he pa_nil hs) hbase hfew hline hs hplain) hsw).weak fun D σ H ⟨B, O, env, r, rl, h1, q⟩ => by
  obtain ⟨d, hd, h2⟩ := bnd h1
  split at h2
  · rename_i xs hi
    split at h2
    · rename_i hz
      cases h2
      obtain ⟨p, g1, g2, g3, g4⟩ := rl.owns i _ hi
      cases g4 with
      | lst hH rs =>
        refine ⟨_, g2, .inl ⟨rfl, _, .inl (.inl hH)⟩, B, O, env, d, rl, hd, fun v H1 s1 r1 => ?_⟩
        have rl1 := rl.heap s1
        have hH1 := s1 _ _ hH
        refine ⟨p, _, v, rfl, rfl, hH1, by rw [rs.len]; exact Nat.lt_of_lt_of_le hz (szL_ok (Nat.le_refl _)), ?_⟩
        have z := ERel.write (i := i) (p := p) (d' := .lst (xs ++ [d])) rl1 g1 g2 (.lst upd_same (((rs.same s1).append (.cons r1 .nil)).mono (fun _ z => z) (keep_write rl1 g1))) trivial
        exact q σ _ O z.1 ((Fm.of_same s1).trans z.2)
    · cases h2
  · cases h2
end
end PV

namespace PV
variable [LT] [RT]
open PySem PySem.Spec PyProof.Rows L2
def tupD : D → Option D
  | .lst xs => some (.tup xs)
  | .tup xs => some (.tup xs)
  | _ => none
def listD : D → Option D
  | .lst xs => some (.lst xs)
  | .tup xs => some (.lst xs)
  | _ => none
def isBD : D → D → Option Bool
  | .bl a, .bl b => some (a == b)
  | _, _ => none
def stuck : Sx := fun _ => none
def drpA (a b : Ex) : Sx := fun e => (a e).bind fun d => (b e).bind fun _ => match d with
  | .lst xs => if xs.length < szL then some (.nx e) else none
  | _ => none
def inC (n : Bool) (ds : List D) (a : Ex) : Tx := fun e => (a e).bind fun d => match d with
  | .int i => some (n != ds.any fun z => D.eqv z (.int i))
  | _ => none
def look (t : List (Int × Int)) (i : Int) : Option Int := match t with
  | [] => none
  | (a, b) :: r => if a = i then some b else look r i
def tabI (t : List (Int × Int)) : D → Option D
  | .int i => (look t i).map D.int
  | _ => none
def sumT : D → Option D
  | .lst xs => (intsOf xs).map fun ns => .int ns.sum
  | .tup xs => (intsOf xs).map fun ns => .int ns.sum
  | _ => none
section
variable {X : Cx} {τ : Bool}
theorem SE.flat {e : Expr} {de : Ex} (h : SE X true e de) (hi : ∀ env d, de env = some d → d.imm = true) : SE X τ e de := h.weak fun σ H Q ⟨B, O, env, d, r, h1, q⟩ => ⟨B, O, env, d, r, h1, fun v H' s rv => q v H' s (rv.immut (hi env d h1))⟩
theorem imm_cal {f : D → Option D} {da : Ax} {env : DEnv} {d : D} (hf : ∀ x y, f x = some y → y.imm = true) (h : cal (f1 f) da env = some d) : d.imm = true := by
  obtain ⟨ds, _, h2⟩ := bnd h
  obtain ⟨x, _, h3⟩ := f1_one h2
  exact hf x d h3
theorem imm_lenD (x y : D) (h : lenD x = some y) : y.imm = true := by
  cases x <;> simp only [lenD, reduceCtorEq] at h
  · split at h <;> cases h
    rfl
  all_goals (cases h; rfl)
theorem imm_intD (x y : D) (h : intD x = some y) : y.imm = true := by
  cases x <;> simp only [intD, reduceCtorEq] at h <;> (cases h; rfl)
theorem imm_allL (x y : D) (h : allL x = some y) : y.imm = true := by
  cases x <;> simp only [allL, reduceCtorEq] at h
  obtain ⟨ns, _, h2⟩ := Option.map_eq_some_iff.mp h
  cases h2; rfl
theorem se_bltI {f : D → Option D} {id : String} {x : Str} {e : Expr} {es : List Expr} {da : Ax} {p pos : Pos} (hf : ∀ x y, f x = some y → y.imm = true) (hc : CallR X (.builtin id) (rC X.mg (f1 f))) (hm : X.mg x = none) (hv : bootBuiltins x = some (.builtin id)) (ha : SA X true (e :: es) da) (hg : Gl X x := by rfl) (hn : x ≠ "__name__" := by decide) (hdb : (x == ("__debug__" : Str)) = false := by decide)
    (he : starEach (e :: es) X.env = (false, eval e X.env) :: starEach es X.env := by rfl) (hpl : (backTo pos (starEach es X.env)).any (·.1) = false := by rfl) : SE X τ (.Call (.Name x p) (e :: es) [] pos) (cal (f1 f) da) := (se_blt hc hm hv ha hg hn hdb he hpl).flat fun _ _ h => imm_cal hf h
theorem se_btyI {f : D → Option D} {T : String} {x : Str} {e : Expr} {es : List Expr} {da : Ax} {p pos : Pos} (hf : ∀ x y, f x = some y → y.imm = true) (hc : CallR X (.type T) (rC X.mg (f1 f))) (hm : X.mg x = none) (hv : bootBuiltins x = some (.type T)) (ha : SA X true (e :: es) da) (hg : Gl X x := by rfl) (hn : x ≠ "__name__" := by decide) (hdb : (x == ("__debug__" : Str)) = false := by decide)
    (he : starEach (e :: es) X.env = (false, eval e X.env) :: starEach es X.env := by rfl) (hpl : (backTo pos (starEach es X.env)).any (·.1) = false := by rfl) : SE X τ (.Call (.Name x p) (e :: es) [] pos) (cal (f1 f) da) := (se_bty hc hm hv ha hg hn hdb he hpl).flat fun _ _ h => imm_cal hf h
theorem tupleOnce (l : Addr) (xs : Array Value) (n : Nat) (dd : Option Addr) (sl : Array (Option Value)) (u : Tok) : Meets (Builtin.«tuple.__mul__» ⟨[.ref l, .int 1 u], []⟩) (fun _ R s => s.heap.get? l = some { cls := .type "tuple", dict := dd, data := .seq xs n, slots := sl } ∧ R (.ok (.ret (.ref l))) s) :=
  .of_wp fun P w A R s h => by
    obtain ⟨hp, g, d, tk, os⟩ := s
    obtain ⟨hl, h⟩ := h
    have idx := AutoSeq1.idx_int
    have one : (xs.isEmpty || (1 : Int) == 1) = true := by simp
    wp_walk using wpAny_loadPart' hl
    repeat (first
      | (refine wpAny_ite_true (by simp) ?_; wp_walk using wpAny_loadPart' hl)
      | (refine wpAny_ite_false (by decide) ?_; wp_walk using wpAny_loadPart' hl))
    exact ⟨_, rfl, h⟩
theorem op_once : OpR X (binaryOp .Mult) (fun x y H Q => ∃ l xs, x = .ref l ∧ y = .int 1 ∧ SqT X.K H l xs ∧ Q (.ref l) H) := by
  intro pins s σ H x y v u Q I rx ry ⟨l, xs, ex, ey, hT, q⟩
  subst ex ey
  cases rx
  obtain ⟨t, rfl⟩ := ry
  obtain ⟨its, r, ⟨⟨c, dd, data, sl⟩, ho, hc, n, hd⟩, hs⟩ := I.tuple hT
  dsimp only at hc hd
  subst hc hd
  exact wpAny_binaryOp_repeat_ref (T := "tuple") (U := "int") (by decide) ⟨_, ho, rfl⟩ (fun s' => typeIs_int s' 1 t) noFill_tuple_mul F.fills_int_mul F.slot_int_rmul repeat_tuple F.slot_int_index.lookup
    (call_meets F.slot_int_rmul (typeIs_int s 1 t) F.entry_int_rmul (F.args_int_rmul_2 _ _) (int_rmul_tuple 1 t l its.toArray n dd sl)
      ⟨ho, rfl, ⟨_, ho, rfl⟩, call_meets F.slot_tuple_mul ⟨_, ho, rfl⟩ F.entry_tuple_mul (F.args_tuple_mul_2 _ _) (tupleOnce l its.toArray n dd sl t) ⟨ho, .ref l, H, I, rfl, q⟩⟩)
theorem op_mulD : OpR X (binaryOp .Mult) (rD X.mg mulD) := by
  intro pins s σ H x y v u Q I rx ry ⟨A, dx, dy, d, fr, r1, r2, e, q⟩
  cases r1 <;> cases r2 <;> simp only [mulD, reduceCtorEq] at e
  · rename_i i j
    split at e
    · rename_i h
      simp only [Bool.or_eq_true] at h
      cases e
      have h' : CMul i j := h.imp b64_ok b64_ok
      exact op_mul pins s σ H _ _ v u Q I rx ry ⟨_, _, rfl, rfl, h', q _ H (Same.refl H) (.int _)⟩
    · cases e
  · rename_i a xs ds hh t k
    split at e
    · rename_i h
      simp only [Bool.and_eq_true, decide_eq_true_eq, Bool.not_eq_true'] at h
      obtain ⟨⟨⟨h1, h2⟩, h3⟩, h4⟩ := h
      cases e
      have hne : xs ≠ [] := fun z => by
        subst z
        have := t.len
        cases ds
        · cases h1
        · simp at this
      by_cases hk : k = 1
      · subst hk
        have e1 : (List.replicate (Int.toNat 1) ds).flatten = ds := by simp
        rw [e1] at q
        exact op_once pins s σ H _ _ v u Q I rx ry ⟨a, xs, rfl, rfl, .inl (.inl hh), q _ H (Same.refl H) (.tup hh t)⟩
      have h2 : 2 ≤ k := by omega
      refine op_repT pins s σ H _ _ v u Q I rx ry ⟨a, k, xs, rfl, rfl, .inl (.inl hh), hne, h2, h3, by rw [t.len]; exact h4, fun p hp => q _ _ (same_upd hp) (.tup upd_same ?_)⟩
      exact (Reps.rep k.toNat t).same (same_upd hp)
    · cases e
theorem se_tuple {e : Expr} {de : Ex} {p pos : Pos} (hm : X.mg "tuple" = none) (h : SE X τ e de) (hg : Gl X "tuple" := by rfl) (na : starEach [e] X.env = (false, eval e X.env) :: starEach [] X.env := by rfl) : SE X τ (.Call (.Name "tuple" p) [e] [] pos) (op1 tupD de) := (pe_tupleOf hg hm h na).weak fun σ H Q ⟨B, O, env, d, r, h1, q⟩ => by
  obtain ⟨x, hx, h2⟩ := bnd h1
  refine ⟨B, O, env, x, r, hx, fun v H1 s1 r1 => ?_⟩
  cases r1 <;> simp only [tupD, reduceCtorEq] at h2
  · rename_i a xs ds h t
    cases h2
    exact .inr ⟨a, xs, rfl, .inl (.inl h), q _ H1 s1 (.tup h t)⟩
  · rename_i a xs ds ha h t
    cases h2
    exact .inl ⟨a, xs, rfl, .inl (.inl h), fun p hp => q _ _ (s1.trans (same_upd hp)) (.tup upd_same (t.same (same_upd hp)))⟩
theorem sn_list {e : Expr} {de : Ex} {p pos : Pos} (hm : X.mg "list" = none) (h : SE X false e de) (hg : Gl X "list" := by rfl) (he : starEach [e] X.env = (false, eval e X.env) :: starEach [] X.env := by rfl) (hpl : (backTo pos (starEach [] X.env)).any (·.1) = false := by rfl) : SN X (.Call (.Name "list" p) [e] [] pos) (op1 listD de) := (pe_callTy call_list_of hg hm boot_list (sa_cons h sa_nil he) (by decide) (by decide) he hpl).weak fun σ H Q ⟨B, O, env, d, r, h1, q⟩ => by
  obtain ⟨x, hx, h2⟩ := bnd h1
  refine ⟨B, O, env, [x], r, by show (de env).bind _ = _; rw [hx]; rfl, fun vs H1 s1 r1 => ?_⟩
  obtain ⟨v, rfl, rx⟩ := reps_one r1
  cases rx <;> simp only [listD, reduceCtorEq] at h2
  · rename_i a xs ds h t
    cases h2
    exact ⟨a, xs, rfl, .inr (.inl (.inl h)), fun p hp => q p _ (s1.trans (same_upd hp)) (Same.free s1 hp) (.lst upd_same ((Reps.ne hp t).same (same_upd hp)))⟩
  · rename_i a xs ds ha h t
    cases h2
    exact ⟨a, xs, rfl, .inl (.inl (.inl h)), fun p hp => q p _ (s1.trans (same_upd hp)) (Same.free s1 hp) (.lst upd_same ((Reps.ne hp t).same (same_upd hp)))⟩
theorem s_stuck {e : Stmt} : SS X e stuck := ⟨fun pins s σ H D I ⟨B, O, env, r, rl, h1, q⟩ => nomatch h1⟩
theorem at_nil {K : PySem.W.Frag} {mg : Str → Option Value} {f : Str} : ∀ c ∈ ([] : List Str), AtOk K mg c f := fun c h => nomatch h
theorem at_cons {K : PySem.W.Frag} {mg : Str → Option Value} {f c : Str} {cs : List Str} (h : AtOk K mg c f) (t : ∀ c ∈ cs, AtOk K mg c f) : ∀ d ∈ c :: cs, AtOk K mg d f := fun d hd => by
  rcases List.mem_cons.mp hd with z | z
  · rw [z]; exact h
  · exact t d z
end
end PV

namespace PV
variable [LT] [RT]
open PySem PySem.Spec PyProof.Rows L2
theorem eqv_kD (a b : Key) : D.eqv (kD a) (kD b) = decide (a = b) := by
  cases a <;> cases b <;> simp [kD, D.eqv, Bool.beq_eq_decide_eq]
theorem eqv_kDs : ∀ (a b : List Key), D.eqvs (a.map kD) (b.map kD) = decide (a = b)
  | [], [] => rfl
  | [], _ :: _ => rfl
  | _ :: _, [] => rfl
  | x :: xs, y :: ys => by
    simp only [List.map_cons, D.eqvs, eqv_kD, eqv_kDs xs ys]
    by_cases h : x = y <;> by_cases h2 : xs = ys <;> simp [h, h2]
theorem eqv_kT (a b : List Key) : D.eqv (.tup (a.map kD)) (.tup (b.map kD)) = decide (a = b) := by
  simp only [D.eqv]; exact eqv_kDs a b
section
variable {mg : Str → Option Value} {A : Addr → Prop} {H : Hp} {v : V} {x : D}
theorem key1_rep (r : Rep mg A H v x) (h : key1 x = true) : ∃ k, v = kV k ∧ x = kD k := by
  cases r <;> simp only [key1, reduceCtorEq, Bool.false_eq_true] at h
  · exact ⟨.inl _, rfl, rfl⟩
  · exact ⟨.inr _, rfl, rfl⟩
theorem keys_rep : ∀ {vs : List V} {xs : List D}, Reps mg A H vs xs → xs.all key1 = true → ∃ ks : List Key, vs = ks.map kV ∧ xs = ks.map kD
  | _, _, .nil, _ => ⟨[], rfl, rfl⟩
  | _, _, .cons h t, e => by
    rw [List.all_cons, Bool.and_eq_true] at e
    obtain ⟨k, rfl, rfl⟩ := key1_rep h e.1
    obtain ⟨ks, rfl, rfl⟩ := keys_rep t e.2
    exact ⟨k :: ks, rfl, rfl⟩
theorem keyT_rep (r : Rep mg A H v x) (h : keyD true x = true) : ∃ (ks : List Key) (b : Addr), v = .ref b ∧ H b = some (.tup (ks.map kV)) ∧ x = .tup (ks.map kD) := by
  cases r <;> simp only [keyD, reduceCtorEq, Bool.false_eq_true] at h
  rename_i a xs ds hh t
  obtain ⟨ks, rfl, rfl⟩ := keys_rep t h
  exact ⟨ks, a, rfl, hh, rfl⟩
theorem dget_some {κ : Type} [DecidableEq κ] {f : κ → D} (hf : ∀ a b, D.eqv (f a) (f b) = decide (a = b)) {k : κ} {d : D} : ∀ {kvs : List (κ × V)} {ds : List D}, Reps mg A H (kvs.map (·.2)) ds → dget (kvs.map fun p => f p.1) ds (f k) = some d → ∃ v, L2.valV kvs k = some v ∧ Rep mg A H v d
  | [], _, .nil, e => by simp [dget] at e
  | p :: kvs, _, .cons h t, e => by
    simp only [List.map_cons, dget, hf] at e
    by_cases hk : p.1 = k
    · rw [if_pos (decide_eq_true hk)] at e
      cases e
      exact ⟨p.2, valV_pos hk, h⟩
    · rw [if_neg (by simpa using hk)] at e
      obtain ⟨v, h1, h2⟩ := dget_some hf t e
      exact ⟨v, by rw [valV_neg hk]; exact h1, h2⟩
theorem dget_none {κ : Type} [DecidableEq κ] {f : κ → D} (hf : ∀ a b, D.eqv (f a) (f b) = decide (a = b)) {k : κ} : ∀ {kvs : List (κ × V)} {ds : List D}, Reps mg A H (kvs.map (·.2)) ds → dget (kvs.map fun p => f p.1) ds (f k) = none → L2.valV kvs k = none
  | [], _, .nil, e => rfl
  | p :: kvs, _, .cons h t, e => by
    simp only [List.map_cons, dget, hf] at e
    by_cases hk : p.1 = k
    · rw [if_pos (decide_eq_true hk)] at e
      cases e
    · rw [if_neg (by simpa using hk)] at e
      rw [valV_neg hk]
      exact dget_none hf t e
theorem dupd_map {κ : Type} [DecidableEq κ] {f : κ → D} (hf : ∀ a b, D.eqv (f a) (f b) = decide (a = b)) {k : κ} {w : V} {d : D} (hw : Rep mg A H w d) : ∀ {kvs : List (κ × V)} {ds : List D}, Reps mg A H (kvs.map (·.2)) ds → Reps mg A H ((kvs.map fun kv => if kv.1 = k then (kv.1, w) else kv).map (·.2)) (dupd (kvs.map fun p => f p.1) ds (f k) d)
  | [], _, .nil => .nil
  | p :: kvs, _, .cons h t => by
    simp only [List.map_cons, dupd, hf]
    by_cases hk : p.1 = k
    · rw [if_pos hk, if_pos (decide_eq_true hk)]
      exact .cons hw (dupd_map hf hw t)
    · rw [if_neg hk, if_neg (by simpa using hk)]
      exact .cons h (dupd_map hf hw t)
theorem dput_put {κ : Type} [DecidableEq κ] {f : κ → D} (hf : ∀ a b, D.eqv (f a) (f b) = decide (a = b)) {k : κ} {w : V} {d : D} (hw : Rep mg A H w d) {kvs : List (κ × V)} {ds : List D} (r : Reps mg A H (kvs.map (·.2)) ds) :
    (L2.putK kvs k w).map (fun p => f p.1) = (dput (kvs.map fun p => f p.1) ds (f k) d).1 ∧ Reps mg A H ((L2.putK kvs k w).map (·.2)) (dput (kvs.map fun p => f p.1) ds (f k) d).2 := by
  unfold L2.putK dput
  rw [valV_any]
  cases hd : dget (kvs.map fun p => f p.1) ds (f k) with
  | none =>
    rw [dget_none hf r hd]
    simp only [Option.isSome_none, Bool.false_eq_true, ↓reduceIte, List.map_append, List.map_cons, List.map_nil, true_and]
    exact r.append (.cons hw .nil)
  | some d' =>
    obtain ⟨v, h1, h2⟩ := dget_some hf r hd
    rw [h1]
    simp only [Option.isSome_some, ↓reduceIte]
    refine ⟨?_, dupd_map hf hw r⟩
    rw [List.map_map]
    apply List.map_congr_left
    intro p _
    simp only [Function.comp]
    split <;> rfl
theorem rep_dget {a : V} {t : Bool} {ks vs : List D} (r : Rep mg A H a (.dic t ks vs)) (rx : Rep mg A H v x) (hk : keyD t x = true) : ∃ p o, a = .ref p ∧ IsD H p ∧ DGet H p v o ∧ match dget ks vs x with
    | some d => ∃ w, o = some w ∧ Rep mg A H w d
    | none => o = none := by
  cases r
  · rename_i a kvs ha h rr
    obtain ⟨k, rfl, rfl⟩ := key1_rep rx hk
    refine ⟨a, L2.valV kvs k, rfl, .inl ⟨_, h⟩, .inl ⟨kvs, k, h, rfl, rfl⟩, ?_⟩
    split
    · rename_i d e
      exact dget_some eqv_kD rr e
    · rename_i e
      exact dget_none eqv_kD rr e
  · rename_i a kvs ha h rr
    obtain ⟨k, b, rfl, hb, rfl⟩ := keyT_rep rx hk
    refine ⟨a, L2.valV kvs k, rfl, .inr ⟨_, h⟩, .inr ⟨kvs, k, b, h, rfl, hb, rfl⟩, ?_⟩
    split
    · rename_i d e
      exact dget_some eqv_kT rr e
    · rename_i e
      exact dget_none eqv_kT rr e
end
section
variable {X : Cx} {τ : Bool}
theorem rep_isD {mg : Str → Option Value} {A : Addr → Prop} {H : Hp} {a : V} {t : Bool} {ks vs : List D} (r : Rep mg A H a (.dic t ks vs)) : ∃ p, a = .ref p ∧ IsD H p := by
  cases r
  · exact ⟨_, rfl, .inl ⟨_, by assumption⟩⟩
  · exact ⟨_, rfl, .inr ⟨_, by assumption⟩⟩
theorem se_getK {o i : Expr} {do_ di : Ex} {pos : Pos} (hu : X.A.units + 1 < cLine) (ho : SE X τ o do_) (hi : SE X τ i di) (hs : NoSl i := by intro _ _; rfl) : SE X τ (.Subscript o i pos) (op2 getK do_ di) := (pe_dget hu ho hi hs).weak fun σ H Q ⟨B, O, env, d, r, h1, q⟩ => by
  obtain ⟨x, hx, h1⟩ := bnd h1
  obtain ⟨y, hy, h1⟩ := bnd h1
  refine ⟨B, O, env, x, r, hx, fun v H1 s1 r1 => ⟨B, O, env, y, r.heap s1, hy, fun w H2 s2 r2 => ?_⟩⟩
  cases x <;> simp only [getK, reduceCtorEq] at h1
  split at h1
  · rename_i hk
    obtain ⟨p, o, rfl, _, g, z⟩ := rep_dget (r1.same s2) r2 hk
    rw [h1] at z
    obtain ⟨w', rfl, rw'⟩ := z
    exact ⟨p, w', rfl, g, q w' H2 (s1.trans s2) rw'⟩
  · cases h1
theorem se_getK2 {o i f : Expr} {do_ di df : Ex} {apos pos : Pos} (hu : X.A.units + 1 < cLine) (ho : SE X τ o do_) (hi : SE X τ i di) (hf : SE X τ f df) (m : M2 X o "get" apos i f pos := by exact ⟨rfl, rfl, rfl, rfl⟩) : SE X τ (.Call (.Attribute o "get" apos) [i, f] [] pos) (op3 getK2 do_ di df) := (pe_dget2 hu ho hi hf m).weak fun σ H Q ⟨B, O, env, d, r, h1, q⟩ => by
  obtain ⟨x, hx, h1⟩ := bnd h1
  obtain ⟨y, hy, h1⟩ := bnd h1
  obtain ⟨z, hz, h1⟩ := bnd h1
  refine ⟨B, O, env, x, r, hx, fun v H1 s1 r1 => ?_⟩
  cases x <;> simp only [getK2, reduceCtorEq] at h1
  obtain ⟨p, rfl, isd⟩ := rep_isD r1
  refine ⟨p, rfl, isd, B, O, env, y, r.heap s1, hy, fun w H2 s2 r2 => ⟨B, O, env, z, (r.heap s1).heap s2, hz, fun u H3 s3 r3 => ?_⟩⟩
  split at h1
  · rename_i hk
    cases h1
    obtain ⟨p', o, e, _, g, zz⟩ := rep_dget (r1.same (s2.trans s3)) (r2.same s3) hk
    cases e
    refine ⟨o, g, ?_⟩
    split at zz
    · rename_i d' e'
      obtain ⟨w', rfl, rw'⟩ := zz
      exact q w' H3 (s1.trans (s2.trans s3)) (by rw [e']; exact rw')
    · rename_i e'
      subst zz
      exact q u H3 (s1.trans (s2.trans s3)) (by rw [e']; exact r3)
  · cases h1
theorem sn_dnewT {pos : Pos} : SN X (.Dict [] [] pos) (cst (.dic true [] [])) := pe_dnewT.weak fun σ H Q ⟨B, O, env, d, r, h1, q⟩ => by
  cases h1
  exact fun p hp => q p _ (same_upd hp) hp (.dicT (kvs := []) upd_same .nil)
theorem s_stK {i : Nat} {x : Str} {e k : Expr} {de dk : Ex} {px pos pos' : Pos} (hu : X.A.units + 1 < cLine) (hk : SE X false k dk) (he : SE X false e de) (hN : X.N[i]? = some x := by rfl) (hv : Vis X.env.scope x := by first | exact Or.inl rfl | exact Or.inr (Or.inl rfl) | exact Or.inr (Or.inr rfl)) (hd : (x == ("__debug__" : Str)) = false := by decide)
    (hcd : (x == ("__classdict__" : Str)) = false := by decide) (hs : swapsWith e (some (.Subscript (.Name x px) k pos')) pos.line X.env = pure false := by rfl) :
    SS X (.Assign [.Subscript (.Name x px) k pos'] e pos) (stK i dk de) := (ps_dput hu (pe_var hN hv hd hcd) hk he hs).weak fun D σ H ⟨B, O, env, r, rl, h1, q⟩ => by
  obtain ⟨d, hd, h1⟩ := bnd h1
  obtain ⟨kd, hkd, h1⟩ := bnd h1
  split at h1
  · rename_i t ks vs hi
    split at h1
    · rename_i hh
      obtain ⟨hh1, hh2, hh3⟩ := hh
      cases h1
      refine ⟨B, O, env, d, rl, hd, fun v H1 s1 r1 => ?_⟩
      obtain ⟨p, g1, g2, g3, g4⟩ := (rl.heap s1).owns i _ hi
      refine ⟨_, g2, B, O, env, kd, rl.heap s1, hkd, fun y H2 s2 r2 => ?_⟩
      have rl2 := (rl.heap s1).heap s2
      have r1' := r1.same s2
      obtain ⟨p', g1', g2', g3', g4'⟩ := rl2.owns i _ hi
      rw [g1] at g1'; cases g1'
      have szl := szL_ok (Nat.le_refl szL)
      cases g4'
      · rename_i kvs hH _ rs
        obtain ⟨k', rfl, rfl⟩ := key1_rep r2 hh1
        obtain ⟨z1, z2⟩ := dput_put eqv_kD (k := k') r1' rs
        refine ⟨p, _, rfl, .inl ⟨kvs, k', hH, rfl, ?_, rfl⟩, ?_⟩
        · have : kvs.length < szL := by simpa using hh2
          omega
        · have z := ERel.write (i := i) (p := p) (o' := .dK (L2.putK kvs k' v)) (d' := .dic false (dput (kvs.map fun p => kD p.1) vs (kD k') d).1 (dput (kvs.map fun p => kD p.1) vs (kD k') d).2) rl2 g1 g2' (by rw [← z1]; exact .dicK upd_same (z2.mono (fun _ z => z) (keep_write rl2 g1))) trivial
          exact q σ _ O z.1 ((Fm.of_same (s1.trans s2)).trans z.2)
      · rename_i kvs hH _ rs
        obtain ⟨k', b, rfl, hb, rfl⟩ := keyT_rep r2 hh1
        obtain ⟨z1, z2⟩ := dput_put eqv_kT (k := k') r1' rs
        refine ⟨p, _, rfl, .inr ⟨kvs, k', b, hH, rfl, hb, ?_, rfl⟩, ?_⟩
        · have : kvs.length < szL := by simpa using hh2
          omega
        · have z := ERel.write (i := i) (p := p) (o' := .dT (L2.putK kvs k' v)) (d' := .dic true (dput (kvs.map fun p => .tup (p.1.map kD)) vs (.tup (k'.map kD)) d).1 (dput (kvs.map fun p => .tup (p.1.map kD)) vs (.tup (k'.map kD)) d).2) rl2 g1 g2' (by rw [← z1]; exact .dicT upd_same (z2.mono (fun _ z => z) (keep_write rl2 g1))) trivial
          exact q σ _ O z.1 ((Fm.of_same (s1.trans s2)).trans z.2)
    · cases h1
  · cases h1
theorem ERel.frz {K : PySem.W.Frag} {mg : Str → Option Value} {B : Bs} {H : Hp} {O : Nat → Option Addr} {σ : L2.St} {env : DEnv} {j : Nat} {d : D} (rl : ERel K mg B O σ H env) (e : env[j]? = some (DSlot.own d)) :
    ∃ p, σ[j]? = some (some (.ref p)) ∧ Rep mg (Lv B (offO O j) false) H (.ref p) d ∧ ERel K mg B (offO O j) σ H (env.set j .no) := by
  obtain ⟨p, h2, h3, h4, h5⟩ := rl.owns j d e
  have hl : j < env.length := (List.getElem?_eq_some_iff.mp e).1
  have rv : Rep mg (Lv B (offO O j) false) H (.ref p) d := h5.rep (fun _ z => z.off) ⟨.inr h4, .inr fun k z => (offO_some z).1 (rl.inj k j p (offO_some z).2 h2)⟩
  have up : ∀ a, Lv B O false a → Lv B (offO O j) false a := fun a h => h.off
  refine ⟨p, h3, rv, ⟨by simp [rl.len], rl.same, fun k d' e => ?_, fun k d' e => ?_, fun k d' e => ?_, fun k l p a b => rl.inj k l p (offO_some a).2 (offO_some b).2, fun k p a => rl.trk k p (offO_some a).2, fun k p a => rl.fr0 k p (offO_some a).2, bd_off rl.bd, fun k p a hk => ?_⟩⟩
  · rcases get_set e with ⟨rfl, e2, hl⟩ | ⟨hj, e2⟩
    · cases e2
    · obtain ⟨w, h1, h2⟩ := rl.vals k d' e2
      exact ⟨w, h1, h2.mono up keepRefl⟩
  · rcases get_set e with ⟨rfl, e2, hl⟩ | ⟨hj, e2⟩
    · cases e2
    · obtain ⟨p, h1, h2, h3, h4⟩ := rl.owns k d' e2
      exact ⟨p, by unfold offO; rw [if_neg hj]; exact h1, h2, h3, h4.mono up keepRefl fun _ z => z⟩
  · rcases get_set e with ⟨rfl, e2, hl⟩ | ⟨hj, e2⟩
    · cases e2
    · obtain ⟨h1, h2, h4⟩ := rl.slfs k d' e2
      exact ⟨by unfold offO; rw [if_neg hj]; exact h1, h2, h4.mono up keepRefl fun _ z => z⟩
  · obtain ⟨h1, h2⟩ := offO_some a
    rw [List.getElem?_set_ne (Ne.symm h1)]
    exact rl.nst k p h2 (by simpa using hk)
end
end PV

namespace PV
variable [LT] [RT]
open PySem PySem.Spec PyProof.Rows L2
structure ZF (fa : List He.Fa) (fn : List He.DefD) (ex : List (PySem.W.Frag → Bool)) (K : PySem.W.Frag) (mg : Str → Option Value) : Prop where
  says : He.SaysD fa fn K
  more : (ex.all fun f => f K) = true
  ns : ∃ h, K.In h ∧ h.Ns mainGlobals mg
section
variable {fa : List He.Fa} {fn : List He.DefD} {ex : List (PySem.W.Frag → Bool)} {K : PySem.W.Frag} {mg : Str → Option Value} (Z : ZF fa fn ex K mg)
include Z
theorem ZF.exf (i : Nat) {f : PySem.W.Frag → Bool} (h : ex[i]? = some f := by rfl) : f K = true := List.all_eq_true.mp Z.more f (List.mem_of_getElem? h)
theorem ZF.glo (i : Nat) {x : Str} (h : fa[i]? = some (.glo x) := by rfl) : mg x = some (.ref (He.ga K x)) := let ⟨_, a, b⟩ := Z.ns; He.glo_ok a b (Z.says.fact i h)
theorem ZF.free (i : Nat) {x : Str} (h : fa[i]? = some (.free x) := by rfl) : mg x = none := let ⟨_, a, b⟩ := Z.ns; He.free_ok a b (Z.says.fact i h)
theorem ZF.int (i : Nat) {x : Str} {n : Int} (h : fa[i]? = some (.int x n) := by rfl) : ∃ t, mg x = some (.int n t) := let ⟨_, a, b⟩ := Z.ns; He.int_ok a b (Z.says.fact i h)
theorem ZF.str (i : Nat) {x z : Str} (h : fa[i]? = some (.str x z) := by rfl) : ∃ t, mg x = some (.str z t) := let ⟨_, a, b⟩ := Z.ns; He.str_ok a b (Z.says.fact i h)
theorem ZF.at (i j k : Nat) {c f : Str} (h : fa[i]? = some (.glo c) := by rfl) (h2 : fa[j]? = some (.cls c) := by rfl) (h3 : fa[k]? = some (.noat c f) := by rfl) : AtOk K mg c f := ⟨_, Z.glo i h, He.cls_ok (Z.says.fact j h2), He.noat_ok (Z.says.fact k h3)⟩
end
section
variable {X : Cx} {τ : Bool}
theorem se_gint {x : Str} {n : Int} {pos : Pos} (h : ∃ t, X.mg x = some (.int n t)) (hg : Gl X x := by rfl) (hd : (x == ("__debug__" : Str)) = false := by decide) : SE X τ (.Name x pos) (cst (.int n)) := by
  obtain ⟨t, h⟩ := h
  exact (pe_glob (v := .int n) hg h ⟨t, rfl⟩ hd).weak fun σ H Q ⟨B, O, env, d, r, h1, q⟩ => by cases h1; exact q _ H (Same.refl H) (.int n)
theorem se_gstr {x z : Str} {pos : Pos} (h : ∃ t, X.mg x = some (.str z t)) (hg : Gl X x := by rfl) (hd : (x == ("__debug__" : Str)) = false := by decide) : SE X τ (.Name x pos) (cst (.str z)) := by
  obtain ⟨t, h⟩ := h
  exact (pe_glob (v := .str z) hg h ⟨t, rfl⟩ hd).weak fun σ H Q ⟨B, O, env, d, r, h1, q⟩ => by cases h1; exact q _ H (Same.refl H) (.str z)
def tupIB (x : Str) (ns : List Int) (K : PySem.W.Frag) : Bool := He.tupB K x (ns.map .int)
def entB : List DictEntry → List (Int × Int) → Bool
  | [], [] => true
  | e :: es, (a, b) :: t => (match e.key, e.val with
    | .int k _, .int v _ => decide (k = a) && decide (v = b) && decide (e.hash = hashInt a)
    | _, _ => false) && entB es t
  | _, _ => false
def tabIB (x : Str) (t : List (Int × Int)) (K : PySem.W.Frag) : Bool := match K.lookup (He.ga K x) with
  | some ⟨.type c, none, .dict es _, sl⟩ => decide (c = "dict") && sl.isEmpty && entB es.toList t
  | _ => false
theorem tabIB_ok {K : PySem.W.Frag} {x : Str} {t : List (Int × Int)} (h : tabIB x t K = true) : ∃ (es : Array DictEntry) (n : Nat), K.lookup (He.ga K x) = some ⟨.type "dict", none, .dict es n, #[]⟩ ∧ entB es.toList t = true := by
  unfold tabIB at h
  cases e : K.lookup (He.ga K x) with
  | none => rw [e] at h; cases h
  | some o =>
    obtain ⟨oc, od, dt, sl⟩ := o
    rw [e] at h
    cases oc <;> try (cases h)
    cases od <;> try (cases h)
    cases dt <;> try (cases h)
    rename_i c es n
    simp only [Bool.and_eq_true, decide_eq_true_eq, Array.isEmpty_iff] at h
    obtain ⟨⟨rfl, rfl⟩, h3⟩ := h
    exact ⟨es, n, rfl, h3⟩
theorem ent_shape : ∀ {es : List DictEntry} {t : List (Int × Int)}, entB es t = true → (∀ e ∈ es, ∃ k u, e.key = .int k u ∧ e.hash = hashInt k) ∧ ∀ i b, look t i = some b → ∃ e u, es.find? (fun e => keyIs (.inl i) e.key) = some e ∧ e.val = .int b u
  | [], [], _ => ⟨fun e he => (nomatch he), fun i b h => by cases h⟩
  | [], _ :: _, h => by cases h
  | _ :: _, [], h => by cases h
  | e :: es, (a, b) :: t, h => by
    unfold entB at h
    rw [Bool.and_eq_true] at h
    obtain ⟨h1, h2⟩ := h
    obtain ⟨i1, i2⟩ := ent_shape h2
    split at h1
    · rename_i k u v w e1 e2
      simp only [Bool.and_eq_true, decide_eq_true_eq] at h1
      obtain ⟨⟨rfl, rfl⟩, h3⟩ := h1
      refine ⟨fun e' he => ?_, fun i b' hb => ?_⟩
      · rcases List.mem_cons.mp he with rfl | he
        · exact ⟨k, u, e1, h3⟩
        · exact i1 e' he
      · unfold look at hb
        split at hb
        · rename_i hk
          subst hk
          cases hb
          refine ⟨e, w, ?_, e2⟩
          rw [List.find?_cons, e1]
          simp [keyIs, Value.isInt]
        · rename_i hk
          obtain ⟨e', u', h4, h5⟩ := i2 i b' hb
          refine ⟨e', u', ?_, h5⟩
          rw [List.find?_cons, e1]
          have : keyIs (.inl i) (.int k u) = false := by simp [keyIs, Value.isInt]; omega
          rw [this]
          exact h4
    · cases h1
theorem se_tabI {x : Str} {t : List (Int × Int)} {i : Expr} {di : Ex} {p pos : Pos} (ht : tabIB x t X.K = true) (hm : X.mg x = some (.ref (He.ga X.K x))) (hi : SE X true i di) (hg : Gl X x := by rfl) (hd : (x == ("__debug__" : Str)) = false := by decide) (hs : NoSl i := by intro _ _; rfl) : SE X τ (.Subscript (.Name x p) i pos) (op1 (tabI t) di) := by
  obtain ⟨es, n, lk, hes⟩ := tabIB_ok ht
  obtain ⟨s1, s2⟩ := ent_shape hes
  refine ⟨fun pins s σ H Q I h => ?_⟩
  obtain ⟨B, O, env, d, r, h1, q⟩ := h
  obtain ⟨y, hy, h2⟩ := bnd h1
  refine subD_of PySem.F.slot_dict_getitem.lookup hs (ld_glob I hg hm (thn (hi.run pins s σ H _ I ⟨B, O, env, y, r, hy, fun v H' s1 rv => (⟨s1, rv⟩ : Same H H' ∧ Rep X.mg (Lv B O true) H' v y)⟩) fun iv s2' ⟨v, H2, I2, ry, ss, rv⟩ => ?_) hd)
  obtain ⟨k, rfl⟩ : ∃ k, y = D.int k := by
    cases y <;> simp only [tabI, reduceCtorEq] at h2
    exact ⟨_, rfl⟩
  obtain ⟨b, hb, h3⟩ := Option.map_eq_some_iff.mp h2
  subst h3
  cases rv
  have hget : s2'.heap.get? (He.ga X.K x) = some ⟨.type "dict", none, .dict es n, #[]⟩ := I2.kIn _ _ lk
  refine ⟨⟨_, hget, rfl⟩, ?_⟩
  obtain ⟨e, u, h4, h5⟩ := s2 k b hb
  have hmap : s2'.heap.MapOf (mixKind X.prog X.w) (He.ga X.K x) (fun j => findBy (mixKind X.prog X.w).is es j) := by
    refine ⟨_, es, n, hget, ⟨rfl, rfl, rfl⟩, rfl, fun e he => ?_, fun _ => rfl⟩
    obtain ⟨k', u', e1, e2⟩ := s1 e (by simpa using he)
    refine ⟨.inl k', ?_, ?_⟩
    · rw [e1]; simp [mixKind, keyIs, Value.isInt]
    · rw [e2]; rfl
  obtain ⟨tk, rfl⟩ := ry
  refine wpAny_getItem_of (knd := mixKind X.prog X.w) (k := .inl k) (v := .int b u) (by simp [mixKind, keyIs, Value.isInt]) hmap ?_ ⟨.int b, H2, I2.tok _, ⟨u, rfl⟩, q _ H2 ss (.int b)⟩
  show findBy keyIs es (.inl k) = _
  unfold findBy
  rw [← Array.find?_toList, h4, ← h5]
  rfl
theorem flat_ints {K : PySem.W.Frag} : ∀ ns : List Int, ((ns.map He.Dv.int).map (He.Dv.v K)).all flatV = true
  | [] => rfl
  | _ :: r => by rw [List.map_cons, List.map_cons, List.all_cons, flat_ints r]; rfl
theorem inV_ints {K : PySem.W.Frag} (i : Int) : ∀ ns : List Int, inV (.int i) ((ns.map He.Dv.int).map (He.Dv.v K)) = ((ns.map D.int).any fun z => D.eqv z (.int i))
  | [] => rfl
  | n :: r => by
    have := inV_ints (K := K) i r
    unfold inV at this ⊢
    simp only [List.map_cons, List.any_cons, this]
    rfl
theorem cinC {n : Bool} {ns : List Int} {a : Ex} {K : PySem.W.Frag} {mg : Str → Option Value} {x : Str} (ht : tupIB x ns K = true) {σ : L2.St} {H : Hp} {Q : Bool → Hp → Prop} (h : tT K mg (inC n (ns.map D.int) a) σ H Q) :
    tOp (rIn K n) (tE K mg true a) (tC (.ref (He.ga K x))) σ H fun y H' => ∃ k, y = .bl k ∧ Q k H' := by
  obtain ⟨B, O, env, c, r, h1, q⟩ := h
  obtain ⟨y, hy, h2⟩ := bnd h1
  refine ⟨B, O, env, y, r, hy, fun v H1 s1 r1 => ?_⟩
  cases y <;> simp only [reduceCtorEq] at h2
  cases h2
  cases r1
  refine ⟨_, _, rfl, .inr (He.tupB_ok ht H1), rfl, flat_ints ns, _, rfl, ?_⟩
  rw [inV_ints]
  cases n
  · simpa using q H1 s1
  · simpa using q H1 s1
theorem st_ninC {x : Str} {ns : List Int} {a : Expr} {da : Ex} {p pos : Pos} (ht : tupIB x ns X.K = true) (hm : X.mg x = some (.ref (He.ga X.K x))) (ha : SE X true a da) (hg : Gl X x := by rfl) (hd : (x == ("__debug__" : Str)) = false := by decide) (hmk : behindInMarks .NotIn (.Name x p) = false := by rfl) : ST X (.Compare a [.NotIn] [.Name x p] pos) (inC true (ns.map D.int) da) :=
  (pt_cmpR op_notIn_seq ha (pe_glob (v := .ref (He.ga X.K x)) hg hm rfl hd) hmk).weak fun σ H Q h => cinC ht h
end
end PV

namespace PV
variable [LT] [RT]
open PySem PySem.Spec PyProof.Rows L2
def zipD : List D → Option (List D)
  | [.lst xs, .lst ys] => some ((xs.zip ys).map fun p => .tup [p.1, p.2])
  | [.tup xs, .tup ys] => some ((xs.zip ys).map fun p => .tup [p.1, p.2])
  | _ => none
def iZp (a : Ax) : Ax := fun e => (a e).bind zipD
section
variable {X : Cx} {τ : Bool}
theorem sn_rev {e : Expr} {de : Ex} {k : Nat} {p1 p2 p3 pos : Pos} (h : SE X false e de) : SN X (.Subscript e (.Slice none none (some (.UnaryOp .USub (.Constant (.int 1) k p1) p2)) p3) pos) (op1 revL de) := (pe_revL h).weak fun σ H Q ⟨B, O, env, d, r, h1, q⟩ => by
  obtain ⟨x, hx, h2⟩ := bnd h1
  refine ⟨B, O, env, x, r, hx, fun v H1 s1 r1 => ?_⟩
  cases x <;> simp only [revL, reduceCtorEq] at h2
  obtain ⟨a, xs, rfl, ha, hh, t⟩ := r1.lst_inv
  cases h2
  exact ⟨a, xs, rfl, .inl (.inl hh), fun p hp => q p _ (s1.trans (same_upd hp)) (Same.free s1 hp) (.lst upd_same ((Reps.ne hp t.reverse).same (same_upd hp)))⟩
theorem reps_pair {mg : Str → Option Value} {A : Addr → Prop} {H : Hp} {vs : List V} {x y : D} (r : Reps mg A H vs [x, y]) : ∃ v w, vs = [v, w] ∧ Rep mg A H v x ∧ Rep mg A H w y := by
  cases r with
  | cons h t =>
    obtain ⟨w, rfl, hw⟩ := reps_one t
    exact ⟨_, w, rfl, h, hw⟩
theorem zip_at {mg : Str → Option Value} {A : Addr → Prop} {H : Hp} {us ws : List V} {xs ys : List D} {i : Nat} {x : D} (ta : Reps mg A H us xs) (tb : Reps mg A H ws ys) (e : ((xs.zip ys).map fun p => D.tup [p.1, p.2])[i]? = some x) :
    ∃ x' y', x = .tup [x', y'] ∧ ∃ v w, us[i]? = some v ∧ Rep mg A H v x' ∧ ws[i]? = some w ∧ Rep mg A H w y' := by
  rw [List.getElem?_map] at e
  obtain ⟨p, hp, e⟩ := Option.map_eq_some_iff.mp e
  obtain ⟨h3, h4⟩ := List.getElem?_zip_eq_some.mp hp
  obtain ⟨v, g1, g2⟩ := ta.get h3
  obtain ⟨w, g3, g4⟩ := tb.get h4
  exact ⟨p.1, p.2, e.symm, v, w, g1, g2, g3, g4⟩
theorem zip_end {mg : Str → Option Value} {A : Addr → Prop} {H : Hp} {us ws : List V} {xs ys : List D} {i : Nat} (ta : Reps mg A H us xs) (tb : Reps mg A H ws ys) (e : ((xs.zip ys).map fun p => D.tup [p.1, p.2])[i]? = none) : us.length ≤ i ∨ ws.length ≤ i := by
  have h := List.getElem?_eq_none_iff.mp e
  rw [List.length_map, List.length_zip, ← ta.len, ← tb.len] at h
  omega
theorem si_zip {e1 e2 : Expr} {elts : List Expr} {kk : Nat} {da : Ax} {p pos tpos : Pos} (hm : X.mg "zip" = none) (ha : SA X false [e1, e2] da) (hg : Gl X "zip" := by rfl)
    (hs : starEach [e1, e2] X.env = (false, eval e1 X.env) :: starEach [e2] X.env := by rfl) (hpl : (backTo pos (starEach [e2] X.env)).any (·.1) = false := by rfl) : SI X (.Tuple elts kk tpos) (.Call (.Name "zip" p) [e1, e2] [] pos) (iZp da) := (RZ.pi_zipA hg hm ha hs hpl).weak fun σ H R ⟨B, O, env, ds, r, h1, q⟩ => by
  obtain ⟨xs, hx, h2⟩ := bnd h1
  refine ⟨B, O, env, xs, r, hx, fun vs H1 s1 r1 => ?_⟩
  unfold zipD at h2
  split at h2
  · rename_i xs ys
    cases h2
    obtain ⟨v, w, rfl, r2, r3⟩ := reps_pair r1
    obtain ⟨a, us, rfl, ha, hA, ta⟩ := r2.lst_inv
    obtain ⟨b, ws, rfl, hb, hB, tb⟩ := r3.lst_inv
    refine ⟨a, b, us, ws, rfl, .inl ⟨.inl (.inl hA), .inl (.inl hB), q _ H1 s1 fun i H k => ?_⟩⟩
    have qa : SqL X.K H a us := .inl (.inl (k.lst a us ⟨ha, _, hA⟩ hA))
    have qb : SqL X.K H b ws := .inl (.inl (k.lst b ws ⟨hb, _, hB⟩ hB))
    refine ⟨fun x e => ?_, fun e => ?_⟩
    · obtain ⟨x', y', rfl, v, w, g1, g2, g3, g4⟩ := zip_at (reps_tr ta) (reps_tr tb) e
      refine ⟨⟨us, ws, v, w, qa, qb, g1, g3⟩, fun v' H' ⟨T, x, y, e1, e2, e3, e4, e5⟩ => ?_⟩
      subst e1 e3
      have z1 := e4 us qa
      have z2 := e5 ws qb
      rw [g1] at z1; rw [g3] at z2
      cases z1; cases z2
      exact ⟨same_upd e2, .tup upd_same (.cons ((g2.mono (fun _ z => z) k).same (same_upd e2)) (.cons ((g4.mono (fun _ z => z) k).same (same_upd e2)) .nil))⟩
    · exact ⟨us, ws, qa, qb, zip_end ta tb e⟩
  · rename_i xs ys
    cases h2
    obtain ⟨v, w, rfl, r2, r3⟩ := reps_pair r1
    obtain ⟨a, us, rfl, hA, ta⟩ := r2.tup_inv
    obtain ⟨b, ws, rfl, hB, tb⟩ := r3.tup_inv
    refine ⟨a, b, us, ws, rfl, .inr ⟨.inl (.inl hA), .inl (.inl hB), q _ H1 s1 fun i H k => ?_⟩⟩
    have qa : SqT X.K H a us := .inl (.inl (k.tup a us hA))
    have qb : SqT X.K H b ws := .inl (.inl (k.tup b ws hB))
    refine ⟨fun x e => ?_, fun e => ?_⟩
    · obtain ⟨x', y', rfl, v, w, g1, g2, g3, g4⟩ := zip_at (reps_tr ta) (reps_tr tb) e
      refine ⟨⟨us, ws, v, w, qa, qb, g1, g3⟩, fun v' H' ⟨T, x, y, e1, e2, e3, e4, e5⟩ => ?_⟩
      subst e1 e3
      have z1 := e4 us qa
      have z2 := e5 ws qb
      rw [g1] at z1; rw [g3] at z2
      cases z1; cases z2
      exact ⟨same_upd e2, .tup upd_same (.cons ((g2.mono (fun _ z => z) k).same (same_upd e2)) (.cons ((g4.mono (fun _ z => z) k).same (same_upd e2)) .nil))⟩
    · exact ⟨us, ws, qa, qb, zip_end ta tb e⟩
  · cases h2
end
end PV

namespace PV
variable [LT] [RT]
open PySem PySem.Spec PyProof.Rows L2
def lexLe : List Int → List Int → Bool
  | [], _ => true
  | _ :: _, [] => false
  | a :: x, b :: y => decide (a < b) || (decide (a = b) && lexLe x y)
def tupInts : D → Option (List Int)
  | .tup xs => intsOf xs
  | _ => none
def tupsInts : List D → Option (List (List Int))
  | [] => some []
  | d :: r => (tupInts d).bind fun m => (tupsInts r).bind fun ms => some (m :: ms)
theorem lexLe_trans : ∀ a b c : List Int, lexLe a b = true → lexLe b c = true → lexLe a c = true
  | [], _, _, _, _ => rfl
  | _ :: _, [], _, h, _ => by simp [lexLe] at h
  | _ :: _, _ :: _, [], _, h => by simp [lexLe] at h
  | a :: x, b :: y, c :: z, h1, h2 => by
    simp only [lexLe, Bool.or_eq_true, Bool.and_eq_true, decide_eq_true_eq] at h1 h2 ⊢
    rcases h1 with h1 | ⟨h1, h1'⟩ <;> rcases h2 with h2 | ⟨h2, h2'⟩
    · exact .inl (by omega)
    · exact .inl (by omega)
    · exact .inl (by omega)
    · exact .inr ⟨by omega, lexLe_trans x y z h1' h2'⟩
theorem lexLe_total : ∀ a b : List Int, (lexLe a b || lexLe b a) = true
  | [], _ => rfl
  | _ :: _, [] => rfl
  | a :: x, b :: y => by
    have := lexLe_total x y
    simp only [lexLe, Bool.or_eq_true, Bool.and_eq_true, decide_eq_true_eq] at this ⊢
    by_cases e : a = b
    · rcases this with h | h
      · exact .inl (.inr ⟨e, h⟩)
      · exact .inr (.inr ⟨e.symm, h⟩)
    · by_cases f : a < b
      · exact .inl (.inl f)
      · exact .inr (.inl (by omega))
theorem lexLe_anti : ∀ a b : List Int, lexLe a b = true → lexLe b a = true → a = b
  | [], [], _, _ => rfl
  | [], _ :: _, _, h => by simp [lexLe] at h
  | _ :: _, [], h, _ => by simp [lexLe] at h
  | a :: x, b :: y, h1, h2 => by
    simp only [lexLe, Bool.or_eq_true, Bool.and_eq_true, decide_eq_true_eq] at h1 h2
    rcases h1 with h1 | ⟨h1, h1'⟩ <;> rcases h2 with h2 | ⟨h2, h2'⟩
    · omega
    · omega
    · omega
    · rw [h1, lexLe_anti x y h1' h2']
theorem srt_eq {ms ns : List (List Int)} (h : ns.Perm ms) (p : ns.Pairwise fun a b => lexLe a b = true) : ms.mergeSort lexLe = ns :=
  List.Perm.eq_of_pairwise (le := fun a b => lexLe a b = true) (fun a b _ _ h1 h2 => lexLe_anti a b h1 h2) (List.pairwise_mergeSort lexLe_trans lexLe_total ms) p ((List.mergeSort_perm ms lexLe).trans h.symm)
theorem ints_keys : ∀ (k : List Key) (m : List Int), intsOf (k.map kD) = some m → k = m.map Sum.inl
  | [], m, h => by cases h; rfl
  | x :: r, m, h => by
    cases x <;> simp only [List.map_cons, kD, intsOf, reduceCtorEq] at h
    obtain ⟨m', h3, h4⟩ := Option.map_eq_some_iff.mp h
    subst h4
    rw [List.map_cons, ← ints_keys r m' h3]
theorem tups_rep {mg : Str → Option Value} : ∀ {ks : List (List Key)} {ms : List (List Int)}, tupsInts (ks.map fun k => D.tup (k.map kD)) = some ms → ks = ms.map fun m => m.map Sum.inl
  | [], ms, h => by cases h; rfl
  | k :: ks, ms, h => by
    simp only [List.map_cons, tupsInts, tupInts] at h
    obtain ⟨m, h1, h⟩ := bnd h
    obtain ⟨ms', h2, h⟩ := bnd h
    cases h
    rw [List.map_cons, ← tups_rep (mg := mg) h2, ints_keys k m h1]
section
variable {P : Program} {w : World} {A : Around} {E : Value → Shared → Prop} {s : Shared} {T : String} {r d : Addr} {n : Nat} {C : Nat → Value → Prop} {OK : Heap → Prop}
theorem gather {R : List Value → Shared → Prop} (K : PySem.W.KdlSrc P w T r d n C OK) (hh : A.handled = none) (ok : OK s.heap) (hn : n ≤ sizeLine)
    (h : ∀ (g : Heap) (tk : Nat) (acc : Array Value), (∀ b o, s.heap.get? b = some o → g.get? b = some o) → s.heap.objs.size < g.objs.size → ItemsOf C acc n → R acc.toList { s with heap := g, toks := tk }) : wpAny (model P w) A (collect (.ref r)) R E s := by
  obtain ⟨lr, ld⟩ := K.there _ ok
  have fin : ∀ (g : Heap) (tk : Nat) (acc : Array Value) (c : Nat), (∀ b o, s.heap.get? b = some o → g.get? b = some o) → g.get? s.heap.objs.size = some { cls := .type "list", dict := none, data := .seq acc c, slots := #[] } → ItemsOf C acc n →
      wpAny (model P w) A (load s.heap.objs.size >>= fun o => match o.data with | .seq xs _ => pure xs.toList | _ => unsupported "internal:collect") R E { s with heap := g, toks := tk } := fun g tk acc c k hS it => wpAny_bind (wpAny_load hS (wpAny_pure (h g tk acc k (Heap.lt_size hS) it)))
  unfold collect
  refine wpAny_bind (wpAny_runValue (codeAny_builtin PyProof.Rows.entry_proto_collect' ?_))
  rw [Around.under_plainId PySem.F.plain_proto_collect _]
  show wpAny _ A.in1 (newList [] >>= fun l => again (.builtin "list.__iadd__" ⟨[l, .ref r], []⟩)) _ _ s
  refine wpAny_bind (wpAny_newObj_type (wpAny_pure ⟨plainId_quiet PySem.F.plain_list_iadd _, codeAny_builtin PyProof.Rows.entry_list_iadd' ?_⟩))
  rw [Around.under_plainId PySem.F.plain_list_iadd _]
  show wpAny _ A.in1 (Builtin.List.listExtendWith (.ref s.heap.objs.size) (.ref r) (.ref s.heap.objs.size)) _ _ _
  have key := PySem.W.kdl_extend (A := A) (s := { s with heap := s.heap.push { cls := .type "list", data := .seq ([] : List Value).toArray } }) (R := fun (q : Result) (s' : Shared) => ∃ (g : Heap) (tk : Nat) (acc : Array Value) (c : Nat), q = .ok (.ret (.ref s.heap.objs.size)) ∧ s' = { s with heap := g, toks := tk } ∧ (∀ b o, s.heap.get? b = some o → g.get? b = some o) ∧ g.get? s.heap.objs.size = some { cls := .type "list", dict := none, data := .seq acc c, slots := #[] } ∧ ItemsOf C acc n)
    K hh (K.keep _ _ ok fun b _ o e => Heap.get?_push_of_some _ e) s.heap.objs.size (Nat.ne_of_gt lr) (Nat.ne_of_gt ld) (.ref s.heap.objs.size) 0 (Heap.get?_push_size _ rfl) (fun g tk acc c k hS it => ⟨g, tk, acc, c, rfl, rfl, fun b o e => k b o (Nat.ne_of_lt (Heap.lt_size e)) (Heap.get?_push_of_some _ e), hS, it⟩) hn
  refine wpAny_mono key (fun f s' x => ?_) fun e s' ⟨_, _, _, _, e', _⟩ => by cases e'
  cases f with
  | done f =>
    obtain ⟨g, tk, acc, c, e, rfl, k, hS, it⟩ := x
    cases e
    exact fin g tk acc c k hS it
  | again c₁ =>
    refine ⟨x.1, codeAny_mono x.2 fun q s₂ y => ?_⟩
    obtain ⟨g, tk, acc, c, rfl, rfl, k, hS, it⟩ := y
    exact fin g tk acc c k hS it
end
section
variable {X : Cx}
theorem reps_ints {mg : Str → Option Value} {A : Addr → Prop} {H : Hp} : ∀ l : List Int, Reps mg A H (l.map V.int) (l.map D.int)
  | [] => .nil
  | i :: l => .cons (.int i) (reps_ints l)
theorem reps_tups {mg : Str → Option Value} {A : Addr → Prop} {H : Hp} : ∀ zs : List (Addr × List Int), (∀ z ∈ zs, H z.1 = some (.tup (z.2.map V.int))) → Reps mg A H (zs.map fun z => V.ref z.1) ((zs.map (·.2)).map fun m => D.tup (m.map D.int))
  | [], _ => .nil
  | z :: r, h => .cons (.tup (h z List.mem_cons_self) (reps_ints z.2)) (reps_tups r fun y hy => h y (List.mem_cons_of_mem _ hy))
end
end PV

namespace PV
variable [LT] [RT]
open PySem PySem.Spec PyProof.Rows L2
def seen (l : List Str) (x : Str) : List Str := if l.any (· == x) then l else l ++ [x]
def dst (l : List Str) : List Str := l.foldl seen []
def strsOf : List D → Option (List Str)
  | [] => some []
  | .str x :: r => (strsOf r).map (x :: ·)
  | _ :: _ => none
def lenSet : D → Option D
  | .lst xs => (strsOf xs).bind fun l => if l.length < 64 then some (.int (dst l).length) else none
  | _ => none
theorem dst_snoc (l : List Str) (x : Str) : dst (l ++ [x]) = seen (dst l) x := by
  unfold dst; rw [List.foldl_append]; rfl
theorem seen_len (l : List Str) (x : Str) : (seen l x).length = if l.any (· == x) then l.length else l.length + 1 := by
  unfold seen; split <;> simp
theorem seen_any (l : List Str) (x y : Str) : (seen l x).any (· == y) = (l.any (· == y) || decide (y = x)) := by
  unfold seen
  split
  · rename_i h
    by_cases e : y = x
    · subst e; rw [h]; rfl
    · simp [e]
  · rw [List.any_append]
    congr 1
    by_cases e : y = x
    · subst e; simp
    · have e' : ¬ x = y := fun z => e z.symm
      simp [e, e']
theorem dst_le : ∀ l : List Str, (dst l).length ≤ l.length := by
  intro l
  have : ∀ (l acc : List Str), (l.foldl seen acc).length ≤ acc.length + l.length := by
    intro l
    induction l with
    | nil => intro acc; exact Nat.le_refl _
    | cons x r ih =>
      intro acc
      have h1 := ih (seen acc x)
      rw [seen_len] at h1
      rw [List.foldl_cons, List.length_cons]
      split at h1 <;> omega
  have := this l []
  simpa [dst] using this
section
variable {P : Program} {w : World} {A : Around} {R : Result → Shared → Prop} {I : Addr} {fp wr : List Addr} {G : Array GenState → Array GenState → Prop} {n : Nat} {C : Nat → Value → Prop} {St : Nat → Shared → Prop}
theorem setLoop (W : WalksS P w A.in1 I fp wr G n C St) (a : Addr) (ha : a ∉ fp) (l : List Str) (hl : l.length = n) (hn : n < 64) (hv : ∀ i v, C i v → ∃ t, v = .str (l.getD i Str.empty) t) : ∀ (k i : Nat) (s : Shared), n - i = k → i ≤ n → St i s →
      s.heap.SetOf (PySem.strKind P w) a (fun y => (dst (l.take i)).any (· == y)) (dst (l.take i)).length →
      (∀ g, Moved (a :: wr) G s g → g.heap.SetOf (PySem.strKind P w) a (fun y => (dst l).any (· == y)) (dst l).length → R (.ok (.ret .none)) g) → codeAny (model P w) A (.builtin "set.update.loop" ⟨[.ref a, .ref I], []⟩) R s := by
  have aw : a ∉ wr := fun h => ha (W.sub _ h)
  have up : ∀ b ∈ wr, b ∈ a :: wr := fun b hb => List.mem_cons_of_mem _ hb
  intro k
  induction k with
  | zero =>
    intro i s hk hi st hS hR
    obtain rfl : i = n := by omega
    refine codeAny_builtin F.entry_set_update_loop ?_
    rw [Around.under_plainId F.plain_set_update_loop _]
    show wpAny _ A.in1 (pyNext (.ref I) >>= _) _ _ s
    refine wpAny_bind (W.done s _ _ st fun g hm => ?_)
    obtain ⟨o, es, ep, t, ho, rest⟩ := hS
    have z : l.take i = l := List.take_of_length_le (by omega)
    rw [z] at rest
    exact wpAny_pure (hR g (hm.mono up) ⟨o, es, ep, t, hm.heap a _ aw ho, rest⟩)
  | succ k ih =>
    intro i s hk hi st hS hR
    have lt : i < n := by omega
    refine codeAny_builtin F.entry_set_update_loop ?_
    rw [Around.under_plainId F.plain_set_update_loop _]
    show wpAny _ A.in1 (pyNext (.ref I) >>= _) _ _ s
    refine wpAny_bind (W.item i s _ _ lt st fun v g hC st' hm => ?_)
    obtain ⟨t, rfl⟩ := hv i v hC
    have hS' : g.heap.SetOf (PySem.strKind P w) a (fun y => (dst (l.take i)).any (· == y)) (dst (l.take i)).length := let ⟨o, es, ep, tb, ho, rest⟩ := hS; ⟨o, es, ep, tb, hm.heap a _ aw ho, rest⟩
    show wpAny _ A.in1 (holding [Value.str (l.getD i Str.empty) t] (setAdd a (.str (l.getD i Str.empty) t)) >>= _) _ _ g
    refine wpAny_bind (wpAny_holding ?_)
    unfold setAdd
    refine wpAny_holding (wpAny_bind ((PySem.strKind P w).pyHash (k := l.getD i Str.empty) (strKind_is _ _ _ _) ?_))
    have room : (dst (l.take i)).length + 1 < scanBound := by
      have := dst_le (l.take i)
      rw [List.length_take] at this
      unfold scanBound
      omega
    have tk : l.take (i + 1) = l.take i ++ [l.getD i Str.empty] := by
      rw [List.take_add_one, List.getElem?_eq_getElem (by omega)]
      simp [List.getD, List.getElem?_eq_getElem (show i < l.length by omega)]
    refine wpAny_setAddHashed_of (knd := PySem.strKind P w) (s := { g with toks := g.toks + 1 }) (strKind_is _ _ _ _) rfl hS' room fun h2 sb S2 => ?_
    have S3 : h2.SetOf (PySem.strKind P w) a (fun y => (dst (l.take (i + 1))).any (· == y)) (dst (l.take (i + 1))).length := SetOf_congr S2 (fun y => by rw [tk, dst_snoc, seen_any]) (by rw [tk, dst_snoc, seen_len])
    refine wpAny_pure ⟨plainId_quiet F.plain_set_update_loop _, ih (i + 1) _ (by omega) lt (W.frame _ g _ _ st' (Nat.le_succ _) fun b hb o e => (sb.2 b fun z : b = a => ha (z ▸ hb)).trans e) S3 fun g2 m2 h3 => ?_⟩
    exact hR g2 (Moved.trans W.gtrans ((hm.mono up).then_heap (Nat.le_succ _) fun b o hb e => (sb.2 b fun z : b = a => hb (z ▸ List.mem_cons_self)).trans e) m2) h3
end
section
variable {P : Program} {w : World} {A : Around} {E : Value → Shared → Prop} {s : Shared}
theorem setOfTexts {l : Addr} {its : Array Value} {xs : List Str} {Q : Value → Shared → Prop} (hh : A.handled = none) (hl : s.heap.IsList l its) (hi : StrsAre its.toList xs) (hn : xs.length < 64)
    (h : ∀ (g : Heap) (tk : Nat), g.SetOf (PySem.strKind P w) s.heap.objs.size (fun y => (dst xs).any (· == y)) (dst xs).length → (∀ b o, b < s.heap.objs.size → s.heap.get? b = some o → g.get? b = some o) → Q (.ref s.heap.objs.size) { s with heap := g, toks := tk }) :
    wpAny (model P w) A (call (.type "set") [.ref l]) Q E s := by
  have made := PySem.F.called_set.made
  have sub := PySem.F.called_set.sub
  have nt := PySem.F.called_set.notType
  have cc := PySem.F.called_set.canCreate
  have tc := PySem.F.typeCall_set_1 (.ref l)
  obtain ⟨c, tl, mro⟩ := PySem.F.called_set.mro
  refine wpAny_call (codeAny_of_tree ?_)
  show wpAny _ _ (callAny (.type "set") _) _ _ _
  refine wpAny_pure ⟨Code.quiet_builtin _ (by decide +kernel), codeAny_builtin PySem.F.entry_type_call ?_⟩
  rw [Around.under_plain (weight_type_call_type "set" [.ref l] []) rfl]
  repeat (any_goals (first | assumption | wp_step))
  refine codeAny_mono (code_set_new_1 (.ref l) (E := E) (Q₁ := fun ob t => ∃ led : Bool, ob = .ref s.heap.objs.size ∧ t = { s with heap := s.heap.push { cls := .type "set", dict := none, data := .set #[] 0 (.fresh 0 0 led) } }) fun led => ⟨led, rfl, rfl⟩) fun r t hr => ?_
  cases r with
  | error e => exact hr
  | ok f =>
    cases f with
    | ret ob =>
      obtain ⟨led, rfl, rfl⟩ := hr
      generalize hS0 : ({ cls := .type "set", dict := none, data := .set #[] 0 (.fresh 0 0 led) } : Obj) = S0
      have at0 : (s.heap.push S0).get? s.heap.objs.size = some S0 := Heap.get?_push_size _ (by rw [← hS0]; rfl)
      have ty0 : Shared.TypeIs { s with heap := s.heap.push S0 } (.ref s.heap.objs.size) "set" := ⟨_, at0, by rw [← hS0]⟩
      have ini := PySem.F.called_set.init.lookup
      have bnd := PySem.F.called_set.init.bind (.ref s.heap.objs.size)
      repeat (any_goals (first | assumption | wp_step))
      refine codeAny_mono (codeAny_call_builtin (R := wants (fun r t => r = .none ∧ ∃ (g : Heap) (tk : Nat), t = { s with heap := g, toks := tk } ∧ g.SetOf (PySem.strKind P w) s.heap.objs.size (fun y => (dst xs).any (· == y)) (dst xs).length ∧ (∀ b o, b < s.heap.objs.size → s.heap.get? b = some o → g.get? b = some o)) E) PySem.F.called_set.init.plain PySem.F.entry_set_init (check_set_init_1 ty0 ?_)) fun r2 t2 hr2 => ?_
      · obtain ⟨ol, hol, hcl, nl, hdl⟩ := hl
        obtain ⟨oc, od, ot, os⟩ := ol
        dsimp only at hcl hdl
        subst hcl
        subst hdl
        have ol1 := Heap.get?_push_of_some S0 hol
        have sl := PySem.F.sub_list_set
        have sf := PySem.F.sub_list_frozenset
        have ne : (Value.type "list" == Value.type "dict") = false := by decide
        have l1 : (s.heap.push S0).IsList l its := ⟨_, ol1, rfl, nl, rfl⟩
        subst hS0
        unfold Builtin.«set.__init__» noKeywords Builtin.Frozenset.updateFrom
        generalize hp : pyIter = pI
        wp_walk
        subst hp
        refine wpAny_pyIter_list l1 ?_
        refine wpAny_bind (wpAny_runValue ?_)
        have lS : l < s.heap.objs.size := Heap.lt_size hol
        have h3 : A.in1.in1.in1.handled = none := by simp [hh]
        have n1 : l ≠ (s.heap.push ({ cls := .type "set", dict := none, data := .set #[] 0 (.fresh 0 0 led) } : Obj)).objs.size := fun z => absurd (z ▸ lS) (by rw [Heap.size_push]; exact fun q => Nat.lt_irrefl _ (Nat.lt_of_succ_lt q))
        have n2 : s.heap.objs.size ∉ [(s.heap.push ({ cls := .type "set", dict := none, data := .set #[] 0 (.fresh 0 0 led) } : Obj)).objs.size, l] := by
          rw [Heap.size_push]
          refine fun z => (List.mem_cons.mp z).elim (fun q => Nat.ne_of_lt (Nat.lt_succ_self _) q) fun z => Nat.ne_of_gt lS (List.mem_singleton.mp z)
        have len : xs.length = its.size := by rw [← StrsAre.len_eq hi, Array.length_toList]
        refine setLoop ((Walks.list h3 _ l n1 its).toS) s.heap.objs.size n2 xs len (len ▸ hn) (fun i v hv => _root_.SS.strs_at hi i v (by rw [Array.getElem?_toList]; exact hv)) (its.size - 0) 0 _ (by omega) (Nat.zero_le _) ⟨⟨_, Heap.get?_push_size _ rfl, rfl, rfl⟩, l1.push _⟩ ?_ ?_
        · have at1 := Heap.get?_push_of_some ({ cls := .type "list_iterator", data := .fields #[.ref l, .int 0 0] } : Obj) at0
          exact SetOf_congr ((setObjOf_fresh (knd := PySem.strKind P w) led).setOf at1 (by unfold scanBound; omega)) (fun _ => rfl) rfl
        · intro t hm hS
          obtain ⟨g, g', d', tk, os'⟩ := t
          have e1 : g' = s.gens := hm.gens
          have e2 : d' = s.drawn := hm.drawn
          have e3 : os' = s.os := hm.os
          subst e1 e2 e3
          show wpAny _ _ _ _ _ _
          refine wpAny_pure ?_
          show wpAny _ _ (ret Value.none) _ _ _
          refine wpAny_pure ⟨rfl, g, tk, rfl, hS, fun b o hb e => hm.heap b o ?_ (Heap.get?_push_of_some _ (Heap.get?_push_of_some _ e))⟩
          rw [Heap.size_push]
          refine fun z => (List.mem_cons.mp z).elim (fun q => Nat.ne_of_lt hb q) fun z => Nat.ne_of_lt (Nat.lt_succ_of_lt hb) (List.mem_singleton.mp z)
      · cases r2 with
        | error e => exact hr2
        | ok f2 =>
          cases f2 with
          | ret r =>
            obtain ⟨rfl, g, tk, rfl, hS, hk⟩ := hr2
            repeat (any_goals (first | assumption | wp_step))
            exact h _ _ hS hk
          | _ => exact hr2.elim
    | _ => exact hr.elim
end
section
variable {X : Cx} {τ : Bool}
theorem strs_rep {mg : Str → Option Value} {A : Addr → Prop} {H : Hp} : ∀ {vs : List V} {ds : List D} {l : List Str}, Reps mg A H vs ds → strsOf ds = some l → vs = l.map V.str
  | _, _, _, .nil, e => by cases e; rfl
  | _, _, _, .cons h t, e => by
    cases h <;> simp only [strsOf, reduceCtorEq] at e
    obtain ⟨r, h1, h2⟩ := Option.map_eq_some_iff.mp e
    subst h2
    rw [List.map_cons, ← strs_rep t h1]
theorem se_lenSet {a : Expr} {da : Ex} {p p2 q pos : Pos} (hc : X.calm = true) (hm : X.mg "len" = none) (hm2 : X.mg "set" = none) (ha : SE X true a da) (hg : Gl X "len" := by rfl) (hg2 : Gl X "set" := by rfl) (na : starEach [a] X.env = (false, eval a X.env) :: starEach [] X.env := by rfl)
    (n2 : starEach [.Call (.Name "set" p2) [a] [] q] X.env = (false, eval (.Call (.Name "set" p2) [a] [] q) X.env) :: starEach [] X.env := by rfl) : SE X τ (.Call (.Name "len" p) [.Call (.Name "set" p2) [a] [] q] [] pos) (op1 lenSet da) := by
  refine ⟨fun pins s σ H Q I ⟨B, O, env, d, r, h1, qq⟩ => ?_⟩
  obtain ⟨y, hy, h2⟩ := bnd h1
  refine Call_ (ld_blt I hg hm boot_len (callWith_builtin1 (args_cons (Call_ (ld_blt I hg2 hm2 boot_set ?_)) n2) n2 rfl))
  refine callWith_type1 (args_cons (thn (ha.run pins s σ H _ I ⟨B, O, env, y, r, hy, fun v H' s1 rv => (⟨s1, rv⟩ : Same H H' ∧ Rep X.mg (Lv B O true) H' v y)⟩) fun v s1 ⟨x, H1, I1, r1, ss, rv⟩ => args_nil ?_) na) na rfl
  cases y <;> simp only [lenSet, reduceCtorEq] at h2
  obtain ⟨ad, xs, rfl, _, hH, t⟩ := rv.lst_inv
  obtain ⟨l, hl, h3⟩ := bnd h2
  split at h3
  · rename_i h64
    cases h3
    cases r1
    have e := strs_rep t hl
    subst e
    obtain ⟨its, rr, pl, hz⟩ := I1.list (show SqL X.K H1 ad (l.map V.str) from .inl (.inl hH))
    refine setOfTexts (I1.ok.hd hc) pl.isList (by simpa using strsAre_of rr) h64 fun g tk hS hk => args_nil ?_
    obtain ⟨o, es, ep, tt, ho, hex, hd, _, _, _, hf, hn⟩ := hS
    have I2 : Inv X pins σ H1 { s1 with heap := g, toks := tk } := I1.kept fun b o e => hk b o (Heap.lt_size e) e
    refine call_len_set ho hex hd hf ?_ ⟨.int (dst l).length, H1, I2.tok _, ⟨_, by rw [hn]⟩, qq _ H1 ss (.int _)⟩
    rw [hn]
    have := dst_le l
    omega
  · cases h3
end
end PV

namespace PV
variable [LT] [RT]
open PySem PySem.Spec PyProof.Rows L2
def lc2Run (g g1 : Gx) (di1 : Ax) (te : Ex) (ws1 : List Nat) (e0 : DEnv) : List D → Option (List D)
  | [] => some []
  | x :: xs => (g x e0).bind fun e1 => (di1 e1).bind fun ys => if noOwn e1 ws1 = true then (lcRun g1 yes te (wip e1 ws1) ys).bind fun zs => (lc2Run g g1 di1 te ws1 e0 xs).bind fun r => some (zs ++ r) else none
def lc2E (it : Ax) (g : Tg) (it1 : Ax) (g1 : Tg) (a : Ex) (ws ws1 : List Nat) : Ex := fun e => (it e).bind fun xs => if noOwn e ws = true then (lc2Run (gD g) (gD g1) it1 a ws1 (wip e ws) xs).bind fun ys => if ys.length ≤ szL then some (.lst ys) else none else none
theorem Keep.trans {A : Addr → Prop} {H H' H'' : Hp} (a : Keep A H H') (b : Keep A H' H'') : Keep A H H'' :=
  ⟨fun x u hx _ h => b.rd x u hx (a.rd x u hx h), fun x C d f hx h => b.ins x C d f hx (a.ins x C d f hx h), fun x l hx h => b.lst x l hx (a.lst x l hx h), fun x l h => b.tup x l (a.tup x l h), fun x o l h => b.fz x o l (a.fz x o l h)⟩
theorem Keep.sub {A A' : Addr → Prop} {H H' : Hp} (a : Keep A' H H') (f : ∀ x, A x → A' x) : Keep A H H' :=
  ⟨fun x u hx _ h => a.rd x u (f x hx) h, fun x C d g hx h => a.ins x C d g (f x hx) h, fun x l hx h => a.lst x l (f x hx) h, a.tup, a.fz⟩
end PV

namespace PV
variable [LT] [RT]
open PySem PySem.Spec PyProof.Rows L2
def spCp (mg : Str → Option Value) (c f g : Str) : Sp := fun vs H Q _ => ∃ (x dx C p : Addr) (u : V) (ws : List V), vs = [.ref x, u, .ref p] ∧ H x = some (.ins C dx []) ∧ mg c = some (.ref C) ∧ p ≠ x ∧ H p = some (.lst ws) ∧
  ∀ q, q ≠ x → H q = none → Q .non (upd (upd (upd H x (.ins C dx [(f, u)])) q (.lst ws)) x (.ins C dx [(f, u), (g, .ref q)]))
structure CopyOk (P : Program) (w : World) (K : PySem.W.Frag) (mg : Str → Option Value) (base : Heap) (k : Nat) (c f g : Str) : Prop where
  ex : ∃ C fa fd ps, FnOk P w K mg base CX0 k fa fd ps (spCp mg c f g) ∧ mg c = some (.ref C) ∧ Mk K C fa ∧ Binds K fd ps []
end PV

namespace PV
variable [LT] [RT]
open PySem PySem.Spec PyProof.Rows L2
def dic1 (k v : Ex) : Ex := fun e => (k e).bind fun x => (v e).bind fun y => if keyD true x then some (.dic true [x] [y]) else none
def isBool : D → Option D
  | .bl _ => some (.bl true)
  | _ => none
section
variable {X : Cx} {τ : Bool}
theorem sn_dic1 {k v : Expr} {dk dv : Ex} {pos : Pos} (hu : X.A.units + 1 < cLine) (hk : SE X false k dk) (hv : SE X false v dv) : SN X (.Dict [some k] [v] pos) (dic1 dk dv) := by
  refine ⟨fun pins s σ H Q I ⟨B, O, env, d, rl, h1, q⟩ => ?_⟩
  obtain ⟨kd, hkd, h2⟩ := bnd h1
  obtain ⟨vd, hvd, h3⟩ := bnd h2
  split at h3
  · rename_i hkey
    cases h3
    have hp := I.hok.fresh (Nat.le_refl s.heap.objs.size)
    have I1 := I.laid (a := s.heap.objs.size) (o := .dT []) (h' := s.heap.push { cls := .type "dict", data := .dict #[] }) (t' := s.toks) (fun _ _ q => Heap.get?_push_of_some _ q) (Nat.le_refl _) (dt_empty s.heap I.big)
    obtain ⟨n, hnl, rm, sub⟩ := rl.more (o := .dT []) hp trivial
    have hOn : putO O n s.heap.objs.size n = some s.heap.objs.size := by unfold putO; rw [if_pos rfl]
    rw [arm_eval_Dict, zip_pairTrees [some k] [v] X.env pos rfl rfl, dictDisplay_pairs _ (by simp [pairTrees]) (by simp [pairTrees])]
    refine wpAny_bind (wpAny_standAt (wpAny_bind ?_))
    unfold subDict
    refine wpAny_bind (wpAny_alloc ?_)
    refine wpAny_bind (wpAny_holding ?_)
    rw [if_pos (by simp [pairTrees])]
    refine wpAny_bind (pairTrees_cons_walk (thn (hk.run pins _ σ _ (fun x H' => Same (upd H s.heap.objs.size (.dT [])) H' ∧ Rep X.mg (Lv B (putO O n s.heap.objs.size) false) H' x kd) I1 ⟨B, _, env, kd, rm, hkd, fun x H' s r => ⟨s, r⟩⟩) fun u s1 ⟨x, H1, I2, rx, ss1, r1⟩ =>
      thn (hv.run pins s1 σ H1 (fun x H' => Same H1 H' ∧ Rep X.mg (Lv B (putO O n s.heap.objs.size) false) H' x vd) I2 ⟨B, _, env, vd, rm.heap ss1, hvd, fun x H' s r => ⟨s, r⟩⟩) fun w s2 ⟨y, H2, I3, ry, ss2, r2⟩ => pairTrees_nil_walk ?_))
    refine wpAny_holding ?_
    have hD : H2 s.heap.objs.size = some (.dT []) := (ss1.trans ss2) _ _ upd_same
    obtain ⟨ks, b, rfl, hb, rfl⟩ := keyT_rep (r1.same ss2) hkey
    cases (show u = Value.ref b from rx)
    obtain ⟨z, hd, xs, rel, dd⟩ := dt_of I3.hok hD
    cases rel
    rw [List.forIn_cons]
    refine wpAny_bind (wpAny_bind (wpAny_bind (wpAny_dictSet_heap (hsz := by simp [sizeLine_eq]) (knd := tupleKind (mixKind X.prog X.w)) (k := ks) (by show X.A.units + 1 ≤ cLine; omega) (key_of I3.hok hb) dd fun h' dd' hs => wpAny_pure ?_)))
    refine wpAny_pure (wpAny_pure (wpAny_pure (wpAny_pure ?_)))
    obtain ⟨o', es, ep, hq, g2, g3, g4, _, g5⟩ := dd'
    have r1' := r1.same ss2
    have KT1 : KT (upd H2 s.heap.objs.size (.dT [(ks, y)])) [(ks, y)] (storedH [] ks b w) := Paired.cons ⟨rfl, by rw [upd_ne (ne_of hb hD (fun z => nomatch z))]; exact hb, ry⟩ Paired.nil
    have I4 := d_write (t' := s2.toks + (tupleKind (mixKind X.prog X.w)).draws ks) I3 (by rw [hD]; exact True.intro) hs ⟨o', hq⟩ (ob := .dT [(ks, y)]) ⟨by simp [sizeLine_eq], hd, _, KT1, o', es, ep, hq, g2, g3, g4, g5⟩
    refine ⟨.ref s.heap.objs.size, _, I4, rfl, ?_⟩
    have kk := keep_write (o' := .dT [(ks, y)]) ((rm.heap ss1).heap ss2) hOn
    refine q _ _ (((same_upd hp).trans (ss1.trans ss2)).put hp hD trivial) hp ?_
    have := Own.dicT (mg := X.mg) (A := fun a => Lv B O false a ∧ a ≠ s.heap.objs.size) (H := upd H2 s.heap.objs.size (.dT [(ks, y)])) (a := s.heap.objs.size) (kvs := [(ks, y)]) (ds := [vd]) upd_same (.cons (r2.mono (fun a ha => ⟨sub false a ha, fun z => ha.2.elim (fun z => Bool.noConfusion z) fun w => w n (by rw [z]; exact hOn)⟩) kk) .nil)
    exact this
  · cases h3
end
end PV

namespace PV
variable [LT] [RT]
open PySem PySem.Spec PyProof.Rows L2
def rN (mg : Str → Option Value) (f : Fn) : List V → Hp → VK → Prop := fun vs H Q => ∃ A ds d, Fr A H ∧ Reps mg A H vs ds ∧ f ds = some d ∧ ∀ p H', Same H H' → H p = none → Own mg (fun a => A a ∧ a ≠ p) H' p d → Q (.ref p) H'
def spN (mg : Str → Option Value) (f : Fn) : Sp := fun vs H Q _ => rN mg f vs H Q
section
variable {P : Program} {w : World} {K : PySem.W.Frag} {mg : Str → Option Value} {base : Heap}
structure MethN (P : Program) (w : World) (K : PySem.W.Frag) (mg : Str → Option Value) (base : Heap) (k : Nat) (c m : Str) (F : Fn) : Prop where
  ex : ∃ C f fd ps, FnOk P w K mg base CX0 k f fd ps (spN mg F) ∧ mg c = some (.ref C) ∧ Cls K C ∧ Meth K C m f ∧ Binds K fd ps []
end
end PV

namespace PV
variable [LT] [RT]
open PySem PySem.Spec PyProof.Rows L2
def iSt (a : Ex) : Ax := fun e => (a e).bind fun d => match d with
  | .str x => some (x.cps.toList.map fun c => .str ⟨#[c]⟩)
  | _ => none
theorem si_str {X : Cx} {tg e : Expr} {de : Ex} (h : SE X false e de) : SI X tg e (iSt de) := (pi_str h).weak fun σ H R ⟨B, O, env, ds, r, h1, q⟩ => by
  obtain ⟨d, hd, h2⟩ := bnd h1
  refine ⟨B, O, env, d, r, hd, fun v H1 s1 r1 => ?_⟩
  split at h2
  · rename_i x
    cases h2
    cases r1
    refine ⟨x, rfl, q _ H1 s1 fun i H k => ⟨fun y e => ?_, fun e => ?_⟩⟩
    · rw [List.getElem?_map] at e
      obtain ⟨c, hc, e⟩ := Option.map_eq_some_iff.mp e
      subst e
      have hc' : x.cps[i]? = some c := by rw [← Array.getElem?_toList]; exact hc
      refine ⟨(Array.getElem?_eq_some_iff.mp hc').1, fun v' H' ⟨e1, c', e2, e3⟩ => ?_⟩
      subst e1 e3
      rw [hc'] at e2
      cases e2
      exact ⟨Same.refl _, .str _⟩
    · have := List.getElem?_eq_none_iff.mp e
      show x.cps.size ≤ i
      simpa using this
  · cases h2
theorem hu65 {k : Nat} {A : Around} (hr : Room k A) : A.units + 65 < cLine := by have := hr.un; omega
def noLst (K : PySem.W.Frag) : Bool := K.all fun q => match q.2.cls with
  | .type c => c != "list"
  | _ => true
theorem list_lookup_mem {a : Addr} {o : Obj} : ∀ {l : List (Addr × Obj)}, l.lookup a = some o → (a, o) ∈ l
  | [], h => by cases h
  | (b, u) :: r, h => by
    simp only [List.lookup] at h
    split at h
    · rename_i e
      cases h
      rw [beq_iff_eq.mp e]
      exact List.mem_cons_self
    · exact List.mem_cons_of_mem _ (list_lookup_mem h)
theorem noLst_rd {K : PySem.W.Frag} (h : noLst K = true) {H : Hp} {a : Addr} {xs : List V} (q : SqL K H a xs) : Rd H a (.lst xs) := by
  rcases q with q | ⟨o, its, n, lk, hc, _⟩
  · exact q
  · have m := list_lookup_mem lk
    have := List.all_eq_true.mp h _ m
    rw [hc] at this
    cases this
def obsE (fa : List He.Fa) (fn : List He.DefD) (ex : List (PySem.W.Frag → Bool)) (K : PySem.W.Frag) : He.AlD := ((He.obsD fa fn K).1 && (ex.all fun f => f K), (He.obsD fa fn K).2)
def obsEG (n : Nat) (fa : List He.Fa) (fn : List He.DefD) (ex : List (PySem.W.Frag → Bool)) (g : Addr → Option Obj) : He.AlD := obsE fa fn ex (He.frG g (He.asD g n))
def hookE (n : Nat) (fa : List He.Fa) (fn : List He.DefD) (ex : List (PySem.W.Frag → Bool)) : PySem.W.Hook where
  α := He.AlD
  obs := fun s => obsEG n fa fn ex s.heap.get?
  val := fun _ => He.valD fn
  says := fun _ h => ∃ K : PySem.W.Frag, K.In h ∧ obsE fa fn ex K = He.valD fn
  of := fun _ _ e => ⟨_, He.frG_in, e⟩
  keeps := fun _ _ _ ⟨K, hK, c⟩ k => ⟨K, PySem.W.Frag.In.keeps hK k, c⟩
theorem obsEG_eq {n : Nat} {fa : List He.Fa} {fn : List He.DefD} {ex : List (PySem.W.Frag → Bool)} {g : Addr → Option Obj} {s : Shared} (h : ∀ a, g a = s.heap.get? a) : obsEG n fa fn ex g = (hookE n fa fn ex).obs s := by
  have e : g = s.heap.get? := funext h
  rw [e] <;> rfl
theorem zf_of {fa : List He.Fa} {fn : List He.DefD} {ex : List (PySem.W.Frag → Bool)} {K : PySem.W.Frag} {mg : Str → Option Value} {h : Heap} (e : obsE fa fn ex K = He.valD fn) (hK : K.In h) (G : h.Ns mainGlobals mg) : ZF fa fn ex K mg := by
  have e1 : ((He.obsD fa fn K).1 && (ex.all fun f => f K)) = true := congrArg (fun z : He.AlD => z.1) e
  have e2 : (He.obsD fa fn K).2 = fn.map He.DefD.val := congrArg (fun z : He.AlD => z.2) e
  rw [Bool.and_eq_true] at e1
  exact ⟨Prod.ext e1.1 e2, e1.2, h, hK, G⟩
theorem law_says {mg : Str → Option Value} {F : Fn} {K : PySem.W.Frag} (hn : noLst K = true) {H : Hp} {a : Addr} {ns : List Int} (hF : F [.scr ns] = some (.bl true)) (hS : SqL K H a (ns.map V.int)) (ht : LamX.Tabs LT.T H := by intro p hp; cases hp) {E : XK} : spD mg F [.ref a] H (fun v _ => v = .bl true) E := by
  refine ⟨fun _ => True, [.scr ns], .bl true, ⟨fun _ _ => trivial, ht⟩, .cons (.scr trivial (noLst_rd hn hS)) .nil, hF, fun v H' _ r => ?_⟩
  cases r
  rfl
end PV

namespace PV
variable [LT] [RT]
open PySem PySem.Spec PyProof.Rows L2
def revT : D → Option D
  | .tup xs => some (.tup xs.reverse)
  | .ftup xs => some (.tup xs.reverse)
  | _ => none
end PV

namespace PV
variable [LT] [RT]
open PySem PySem.Spec PyProof.Rows L2
mutual
def D.alk : D → D → Bool
  | .int _, .int _ => true
  | .tup xs, .tup ys => D.alks xs ys
  | _, _ => false
def D.alks : List D → List D → Bool
  | x :: xs, y :: ys => D.alk x y && D.alks xs ys
  | [], _ => true
  | _ :: _, [] => true
end
mutual
def D.ltv : D → D → Bool
  | .int a, .int b => decide (a < b)
  | .tup xs, .tup ys => D.ltvs xs ys
  | _, _ => false
def D.ltvs : List D → List D → Bool
  | x :: xs, y :: ys => if D.eqv x y = true then D.ltvs xs ys else D.ltv x y
  | [], _ :: _ => true
  | _, [] => false
end
mutual
theorem ltv_toP : ∀ {n m : Nat} {a b : D}, D.plain n a = true → D.plain m b = true → D.alk a b = true → PySem.W.alike (toP a) (toP b) = true ∧ PySem.W.dataLt (toP a) (toP b) = D.ltv a b
  | _, _, .int a, .int b, _, _, _ => ⟨by simp [toP, PySem.W.alike], by rw [toP, toP, PySem.W.dataLt_int, D.ltv]⟩
  | 0, _, .tup xs, .tup ys, ha, _, _ => by simp [D.plain] at ha
  | _ + 1, 0, .tup xs, .tup ys, _, hb, _ => by simp [D.plain] at hb
  | n + 1, m + 1, .tup xs, .tup ys, ha, hb, h => by
    simp only [D.plain] at ha hb
    simp only [D.alk] at h
    have z := ltvs_toP ha hb h
    refine ⟨by simp only [toP, PySem.W.alike]; exact z.1, ?_⟩
    rw [toP, toP, PySem.W.dataLt_tuple, z.2, D.ltv]
  | _, _, .non, _, _, _, h => by cases ‹D› <;> simp [D.alk] at h
  | _, _, .bl _, _, _, _, h => by cases ‹D› <;> simp [D.alk] at h
  | _, _, .str _, _, _, _, h => by cases ‹D› <;> simp [D.alk] at h
  | _, _, .lst _, _, _, _, h => by cases ‹D› <;> simp [D.alk] at h
  | _, _, .dic _ _ _, _, _, _, h => by cases ‹D› <;> simp [D.alk] at h
  | _, _, .ins _ _ _, _, _, _, h => by cases ‹D› <;> simp [D.alk] at h
  | _, _, .scr _, _, _, _, h => by cases ‹D› <;> simp [D.alk] at h
  | _, _, .ftup _, _, _, _, h => by cases ‹D› <;> simp [D.alk] at h
  | _, _, .int _, .non, _, _, h => by simp [D.alk] at h
  | _, _, .int _, .bl _, _, _, h => by simp [D.alk] at h
  | _, _, .int _, .str _, _, _, h => by simp [D.alk] at h
  | _, _, .int _, .tup _, _, _, h => by simp [D.alk] at h
  | _, _, .int _, .lst _, _, _, h => by simp [D.alk] at h
  | _, _, .int _, .dic _ _ _, _, _, h => by simp [D.alk] at h
  | _, _, .int _, .ins _ _ _, _, _, h => by simp [D.alk] at h
  | _, _, .int _, .scr _, _, _, h => by simp [D.alk] at h
  | _, _, .int _, .ftup _, _, _, h => by simp [D.alk] at h
  | _, _, .tup _, .non, _, _, h => by simp [D.alk] at h
  | _, _, .tup _, .bl _, _, _, h => by simp [D.alk] at h
  | _, _, .tup _, .str _, _, _, h => by simp [D.alk] at h
  | _, _, .tup _, .int _, _, _, h => by simp [D.alk] at h
  | _, _, .tup _, .lst _, _, _, h => by simp [D.alk] at h
  | _, _, .tup _, .dic _ _ _, _, _, h => by simp [D.alk] at h
  | _, _, .tup _, .ins _ _ _, _, _, h => by simp [D.alk] at h
  | _, _, .tup _, .scr _, _, _, h => by simp [D.alk] at h
  | _, _, .tup _, .ftup _, _, _, h => by simp [D.alk] at h
theorem ltvs_toP : ∀ {n m : Nat} {a b : List D}, D.plains n a = true → D.plains m b = true → D.alks a b = true → PySem.W.alikeAll (toPs a) (toPs b) = true ∧ PyProof.Rows.lexLt PyProof.Rows.itemOrd (PySem.W.keyToksAll (toPs a)) (PySem.W.keyToksAll (toPs b)) = D.ltvs a b
  | _, _, [], [], _, _, _ => ⟨by simp [toPs, PySem.W.alikeAll], by simp only [toPs, D.ltvs]; exact PyProof.Rows.lex_irrefl _⟩
  | _, _, [], y :: ys, _, _, _ => ⟨by simp [toPs, PySem.W.alikeAll], by
    simp only [toPs, D.ltvs, PySem.W.toks_all_cons, PySem.W.keyToksAll]
    rw [PyProof.Rows.lex_diff (O := PyProof.Rows.itemOrd) (by simp)]; decide⟩
  | _, _, x :: xs, [], _, _, _ => ⟨by simp [toPs, PySem.W.alikeAll], by
    simp only [toPs, D.ltvs, PySem.W.toks_all_cons, PySem.W.keyToksAll]
    rw [PyProof.Rows.lex_diff (O := PyProof.Rows.itemOrd) (by simp)]; decide⟩
  | _, _, x :: xs, y :: ys, ha, hb, h => by
    simp only [D.plains, Bool.and_eq_true] at ha hb
    simp only [D.alks, Bool.and_eq_true] at h
    have z := ltv_toP ha.1 hb.1 h.1
    have zs := ltvs_toP ha.2 hb.2 h.2
    refine ⟨by simp only [toPs, PySem.W.alikeAll, z.1, zs.1, Bool.and_self], ?_⟩
    have e := eqv_toP ha.1 hb.1
    simp only [toPs, D.ltvs]
    by_cases q : D.eqv x y = true
    · rw [if_pos q, PySem.W.dataLt_all_yes z.1 (by rw [e]; exact q), zs.2]
    · rw [if_neg q, PySem.W.dataLt_all_no z.1 (by rw [e]; simpa using q), z.2]
end
section
variable {X : Cx}
def max2 : Fn := fun ds => match ds with
  | [.int a, .int b] => some (.int (if b > a then b else a))
  | _ => none
end
end PV

namespace PV
variable [LT] [RT]
open PySem PySem.Spec PyProof.Rows L2
def enumD : List D → Option (List D)
  | [.lst xs] => some (xs.zipIdx.map fun p => .tup [.int (p.2 : Int), p.1])
  | [.tup xs] => some (xs.zipIdx.map fun p => .tup [.int (p.2 : Int), p.1])
  | [.ftup xs] => some (xs.zipIdx.map fun p => .tup [.int (p.2 : Int), p.1])
  | _ => none
def iEnum (a : Ax) : Ax := fun e => (a e).bind enumD
def ItU (K : PySem.W.Frag) (a : Addr) : It :=
  ⟨fun i H => ∃ (xs : List V) (x : V), SqT K H a xs ∧ xs[i]? = some x, fun i H v H' => ∃ T x, v = .ref T ∧ H T = none ∧ H' = upd H T (.tup [.int (i : Nat), x]) ∧ ∀ xs, SqT K H a xs → xs[i]? = some x, fun i H => ∃ xs : List V, SqT K H a xs ∧ xs.length ≤ i⟩
theorem enum_newT (l : Addr) (items : Array Value) (n : Nat) (dct : Option Addr) (sl : Array (Option Value)) :
    Meets (Builtin.«enumerate.__new__» ⟨[.type "enumerate", .ref l], []⟩) (fun _ R s => s.heap.get? l = some { cls := .type "tuple", dict := dct, data := .seq items n, slots := sl } ∧
      R (.ok (.ret (.ref (s.heap.push { cls := .type "tuple_iterator", data := .fields #[.ref l, .int 0 0] }).objs.size)))
        { s with heap := (s.heap.push { cls := .type "tuple_iterator", data := .fields #[.ref l, .int 0 0] }).push { cls := .type "enumerate", data := .fields #[.none, .bool false, .ref s.heap.objs.size, rawInt 0, .none, .none] } }) :=
  .of_wp fun prog w A R s h => by
    obtain ⟨hp, g, d, tk, os⟩ := s; obtain ⟨hl, h⟩ := h
    have hsub := sub_enumerate
    have hT : Heap.IsTuple (Shared.heap ⟨hp, g, d, tk, os⟩) l items := ⟨_, hl, rfl, n, rfl⟩
    wp_walk using AutoSeq1.wpAny_loadPart' hl
    refine wpAny_stack_any fun st => wpAny_pure ?_
    split
    · rename_i c _ _ _ _ _
      cases (c == Value.type "enumerate") <;> (wp_walk using AutoSeq1.wpAny_loadPart' hl, wpAny_pyIter_tuple hT; exact ⟨_, rfl, h⟩)
    · wp_walk using AutoSeq1.wpAny_loadPart' hl, wpAny_pyIter_tuple hT
      exact ⟨_, rfl, h⟩
section
variable {prog : Program} {w : World} {A : Around} {E : Value → Shared → Prop} {s : Shared}
theorem call_enumT {l : Addr} {items : Array Value} {Q : Value → Shared → Prop} (hL : s.heap.IsTuple l items)
    (h : ∀ h', IsEnum h' (s.heap.objs.size + 1) s.heap.objs.size 0 .none → h'.IsTupleIter s.heap.objs.size l 0 → h'.objs.size = s.heap.objs.size + 2 → (∀ b o, s.heap.get? b = some o → h'.get? b = some o) → Q (.ref (s.heap.objs.size + 1)) { s with heap := h' }) :
    wpAny (model prog w) A (call (.type "enumerate") [.ref l]) Q E s := by
  obtain ⟨⟨c, dct, dt, sl⟩, hl, hc, n, hd⟩ := hL
  simp only at hc hd
  subst hc hd
  refine callType_new F.called_enumerate (by decide) (F.typeCall_enumerate_1 _) (F.newCall_enumerate_1 _) (fun obj => F.args_object_init_2 obj _) F.entry_enumerate_new (enum_newT l items n dct sl) ⟨hl, ?_⟩
  have hz : (s.heap.push { cls := .type "tuple_iterator", data := .fields #[.ref l, .int 0 0] }).objs.size = s.heap.objs.size + 1 := Heap.size_push ..
  show _ ∧ _
  rw [hz]
  have he : IsEnum ((s.heap.push { cls := .type "tuple_iterator", data := .fields #[.ref l, .int 0 0] }).push { cls := .type "enumerate", data := .fields #[.none, .bool false, .ref s.heap.objs.size, rawInt 0, .none, .none] }) (s.heap.objs.size + 1) s.heap.objs.size 0 .none := by
    have z := Heap.get?_push_size (s.heap.push { cls := .type "tuple_iterator", data := .fields #[.ref l, .int 0 0] }) (o := { cls := .type "enumerate", data := .fields #[.none, .bool false, .ref s.heap.objs.size, rawInt 0, .none, .none] }) rfl
    rw [hz] at z; exact z
  exact ⟨⟨_, he, rfl⟩, h _ he ⟨_, Heap.get?_push_of_some _ (Heap.get?_push_size _ rfl), rfl, rfl⟩ (by rw [Heap.size_push, hz]) fun b o x => Heap.get?_push_of_some _ (Heap.get?_push_of_some _ x)⟩
theorem draws_end (hh : A.handled = none) {it t : Addr} {items : Array Value} {i : Nat} (hi : items.size ≤ i) : Draws prog w A it [it, t] i (fun _ _ => False) (fun j h => j = i ∧ h.IsTupleIter it t i ∧ h.IsTuple t items) where
  live := fun _ _ st => let ⟨o, ho, _⟩ := st.2.1; ⟨o, ho⟩
  frame := fun _ _ _ st hk => ⟨st.1, st.2.1.at fun o e => hk it (by simp) o e, st.2.2.at fun o e => hk t (by simp) o e⟩
  item := fun j s Q E hj st hQ => absurd st.1 (by omega)
  done := fun s Q E st hE => wpAny_nextOf_tuple_end hh st.2.1 st.2.2 (by simp [hi]) hE
end
theorem turn_enumT {P : Program} {w : World} {K : PySem.W.Frag} {elts : List Expr} {kk : Nat} {tpos : Pos} (a e it : Addr) :
    Turn P w K (.Tuple elts kk tpos) (ItU K a) [e, it] e (fun i h => (∃ old, IsEnum h e it ((i : Nat) : Int) old) ∧ h.IsTupleIter it a i ∧ e ≠ it ∧ a ≠ it ∧ a ≠ e) where
  mem := by simp
  obj := fun i h st b hb => by
    obtain ⟨⟨old, he⟩, ⟨o, ho, hc, hd⟩, _⟩ := st
    have e' : b = e ∨ b = it := by simpa using hb
    rcases e' with rfl | rfl
    · exact ⟨_, he, fun v q => nomatch q⟩
    · exact ⟨o, ho, fun v q => by rw [hd] at q; cases q⟩
  keep := fun i h h' st k => ⟨let ⟨old, he⟩ := st.1; ⟨old, k e (by simp) _ he⟩, st.2.1.at fun o q => k it (by simp) o q, st.2.2⟩
  item := by
    intro X hP hw hK hc i pins s σ H E I hf st ⟨xs, x, hq, hx⟩
    subst hP hw hK
    obtain ⟨⟨old, he⟩, hit, hne, h1, h2⟩ := st
    obtain ⟨its, rv, p, hz⟩ := I.tuple hq
    obtain ⟨u, hu, ru⟩ := rv.get hx
    have hel : e < s.heap.objs.size := Heap.lt_size he
    have hil : it < s.heap.objs.size := by obtain ⟨_, q, _⟩ := hit; exact Heap.lt_size q
    have hlt : i < its.toArray.size := by rw [List.size_toArray]; exact (List.getElem?_eq_some_iff.mp hu).1
    refine wpAny_pyNext_enum_itemC (Draws.tuple (A := X.A.in1) (I.ok.hd hc) it a h1 its.toArray) he ⟨hit, p⟩ hlt hne (by simp [hne, Ne.symm h2]) fun u' h' tk hu' ho st' hT hsz hk => ?_
    have : u' = u := by
      have z : its.toArray[i]? = some u := by simpa using hu
      rw [z] at hu'; cases hu'; rfl
    subst this
    refine ⟨_, rfl, wpAny_letOwnedTupleGo_enum (s := { s with heap := h', toks := tk + 1 }) ho fun h'' he' sb => ?_⟩
    have hT2 : h''.get? s.heap.objs.size = some { cls := .type "tuple", data := .seq #[.int i tk, u'] } := (sb.2 _ (Nat.ne_of_gt hel)).trans hT
    have new : ObjOk X.prog X.w (upd H s.heap.objs.size (.tup [.int (i : Nat), x])) h'' s.heap.objs.size (.tup [.int (i : Nat), x]) := ⟨by show 2 ≤ sizeLine; decide, [.int i tk, u'], .cons ⟨_, rfl⟩ (.cons ru .nil), ⟨_, hT2, rfl, _, rfl⟩⟩
    have I1 : Inv X pins σ (upd H s.heap.objs.size (.tup [.int (i : Nat), x])) { s with heap := h'', toks := tk + 1 } :=
      I.turnedNew (ch := [e, it]) (fun b ob hb q => (sb.2 b (fun z => hb (by simp [z]))).trans (hk b ob (fun z => hb (by simp [z])) (fun z => hb (by simp [z])) q)) hf (Nat.le_refl _) new
    refine ⟨.ref s.heap.objs.size, _, I1, rfl, ⟨_, x, rfl, I.hok.fresh (Nat.le_refl _), rfl, fun ys hy => by rw [I.tuple_inj hy hq]; exact hx⟩, ⟨⟨u', ?_⟩, st'.1.at fun o q => (sb.2 it (Ne.symm hne)).trans q, hne, h1, h2⟩, fun b hb => ?_⟩
    · have e1 : ((i + 1 : Nat) : Int) = (i : Int) + 1 := by omega
      rw [e1]; exact he'
    · have hb' : b < s.heap.objs.size := by
        have e' : b = e ∨ b = it := by simpa using hb
        rcases e' with rfl | rfl
        · exact hel
        · exact hil
      rw [upd_ne (Nat.ne_of_lt hb')]
      exact (hf b hb).1
  done := by
    intro X hP hw hK hc i pins s σ H E I hf st ⟨xs, hq, hx⟩
    subst hP hw hK
    obtain ⟨⟨old, he⟩, hit, hne, h1, h2⟩ := st
    obtain ⟨its, rv, p, hz⟩ := I.tuple hq
    obtain ⟨f0, f1, f2, f3, f4, f5⟩ := hf it (by simp)
    have hl := rv.length
    exact wpAny_pyNext_enum_endD (draws_end (A := X.A.in1) (I.ok.hd hc) (items := its.toArray) (i := i) (by rw [List.size_toArray]; omega)) he ⟨rfl, hit, p⟩ fun h' eb => ⟨rfl, I.turned (t' := s.toks) (fun b o hb q => eb b o hb q) f0 f1 f3 f4 f5⟩
  self := fun A i s Q E st h => let ⟨⟨_, he⟩, _⟩ := st; wpAny_pyIter_enum he h
section
variable {X : Cx}
def tEnumT (K : PySem.W.Frag) (ta : TA) : TI := fun σ H R => ta σ H fun vs H1 => (∃ a xs, vs = [.ref a] ∧ SqL K H1 a xs ∧ R (Ite K a) H1) ∨ (∃ a xs, vs = [.ref a] ∧ SqT K H1 a xs ∧ R (ItU K a) H1)
theorem pi_enumA {e : Expr} {ta : TA} {p pos tpos : Pos} {elts : List Expr} {kk : Nat} (hg : Gl X "enumerate") (hm : X.mg "enumerate" = none) (ha : PA X [e] ta) (hs : starEach [e] X.env = [(false, eval e X.env)] := by rfl) :
    PI X (.Tuple elts kk tpos) (.Call (.Name "enumerate" p) [e] [] pos) (tEnumT X.K ta) := ⟨fun pins s σ H R I h => by
  refine Call_ (ld_blt I hg hm boot_enumerate (PyProof.Rows.callWith_type1 (thn (ha.run pos pins s σ H _ I h) fun us s1 ⟨vs, H1, I1, r1, q1⟩ => ?_) hs rfl))
  have far : ∀ b ∈ [s1.heap.objs.size + 1, s1.heap.objs.size], s1.heap.objs.size ≤ b := fun b hb => by
    have e' : b = s1.heap.objs.size + 1 ∨ b = s1.heap.objs.size := by simpa using hb
    omega
  rcases q1 with ⟨a, xs, ex, hq, q⟩ | ⟨a, xs, ex, hq, q⟩
  · subst ex
    rw [Vals.ref1 r1]
    obtain ⟨its, rv, p', hz⟩ := I1.list hq
    refine call_enumerate_list p'.isList fun h' he hit hsz hk => wpAny_pyIter_enum he ?_
    exact ⟨s1.heap.objs.size + 1, [s1.heap.objs.size + 1, s1.heap.objs.size], _, _, H1, rfl, I1.kept (t' := s1.toks) hk, turn_enum a (s1.heap.objs.size + 1) s1.heap.objs.size, ⟨⟨.none, he⟩, hit, Nat.succ_ne_self _⟩, fun b hb => I1.fpOk (far b hb) (I1.hok.fresh (far b hb)), q⟩
  · subst ex
    rw [Vals.ref1 r1]
    obtain ⟨its, rv, p', hz⟩ := I1.tuple hq
    have hlt : a < s1.heap.objs.size := by obtain ⟨o, ho, _⟩ := p'; exact Heap.lt_size ho
    refine call_enumT p' fun h' he hit hsz hk => wpAny_pyIter_enum he ?_
    exact ⟨s1.heap.objs.size + 1, [s1.heap.objs.size + 1, s1.heap.objs.size], _, _, H1, rfl, I1.kept (t' := s1.toks) hk, turn_enumT a (s1.heap.objs.size + 1) s1.heap.objs.size, ⟨⟨.none, he⟩, hit, Nat.succ_ne_self _, Nat.ne_of_lt hlt, Nat.ne_of_lt (Nat.lt_succ_of_lt hlt)⟩, fun b hb => I1.fpOk (far b hb) (I1.hok.fresh (far b hb)), q⟩⟩
theorem zipIdx_at {xs : List D} {i : Nat} {x : D} (e : (xs.zipIdx.map fun p => D.tup [.int (p.2 : Int), p.1])[i]? = some x) : ∃ y, xs[i]? = some y ∧ x = .tup [.int (i : Int), y] := by
  rw [List.getElem?_map, List.getElem?_zipIdx] at e
  obtain ⟨p, hp, e⟩ := Option.map_eq_some_iff.mp e
  obtain ⟨y, hy, e2⟩ := Option.map_eq_some_iff.mp hp
  subst e2
  exact ⟨y, hy, by rw [← e]; simp⟩
theorem zipIdx_end {xs : List D} {i : Nat} (e : (xs.zipIdx.map fun p => D.tup [.int (p.2 : Int), p.1])[i]? = none) : xs.length ≤ i := by
  have h := List.getElem?_eq_none_iff.mp e
  simpa using h
theorem si_enum {e1 : Expr} {elts : List Expr} {kk : Nat} {da : Ax} {p pos tpos : Pos} (hm : X.mg "enumerate" = none) (ha : SA X false [e1] da) (hg : Gl X "enumerate" := by rfl) (hs : starEach [e1] X.env = [(false, eval e1 X.env)] := by rfl) :
    SI X (.Tuple elts kk tpos) (.Call (.Name "enumerate" p) [e1] [] pos) (iEnum da) := (pi_enumA hg hm ha hs).weak fun σ H R ⟨B, O, env, ds, r, h1, q⟩ => by
  obtain ⟨xs, hx, h2⟩ := bnd h1
  refine ⟨B, O, env, xs, r, hx, fun vs H1 s1 r1 => ?_⟩
  unfold enumD at h2
  split at h2
  · rename_i xs
    cases h2
    obtain ⟨v, rfl, r2⟩ := reps_one r1
    obtain ⟨a, us, rfl, ha, hA, ta⟩ := r2.lst_inv
    refine .inl ⟨a, us, rfl, .inl (.inl hA), q _ H1 s1 fun i H k => ?_⟩
    have qa : SqL X.K H a us := .inl (.inl (k.lst a us ⟨ha, _, hA⟩ hA))
    refine ⟨fun x e => ?_, fun e => ⟨us, qa, by rw [ta.len]; exact zipIdx_end e⟩⟩
    obtain ⟨y, hy, rfl⟩ := zipIdx_at e
    obtain ⟨v, g1, g2⟩ := (reps_tr ta).get hy
    refine ⟨⟨us, v, qa, g1⟩, fun v' H' ⟨T, x, e1, e2, e3, e4⟩ => ?_⟩
    subst e1 e3
    have z := e4 us qa
    rw [g1] at z; cases z
    exact ⟨same_upd e2, .tup upd_same (.cons (.int _) (.cons ((g2.mono (fun _ z => z) k).same (same_upd e2)) .nil))⟩
  · rename_i xs
    cases h2
    obtain ⟨v, rfl, r2⟩ := reps_one r1
    obtain ⟨a, us, rfl, hA, ta⟩ := r2.tup_inv
    refine .inr ⟨a, us, rfl, .inl (.inl hA), q _ H1 s1 fun i H k => ?_⟩
    have qa : SqT X.K H a us := .inl (.inl (k.tup a us hA))
    refine ⟨fun x e => ?_, fun e => ⟨us, qa, by rw [ta.len]; exact zipIdx_end e⟩⟩
    obtain ⟨y, hy, rfl⟩ := zipIdx_at e
    obtain ⟨v, g1, g2⟩ := (reps_tr ta).get hy
    refine ⟨⟨us, v, qa, g1⟩, fun v' H' ⟨T, x, e1, e2, e3, e4⟩ => ?_⟩
    subst e1 e3
    have z := e4 us qa
    rw [g1] at z; cases z
    exact ⟨same_upd e2, .tup upd_same (.cons (.int _) (.cons ((g2.mono (fun _ z => z) k).same (same_upd e2)) .nil))⟩
  · rename_i xs
    cases h2
    obtain ⟨v, rfl, r2⟩ := reps_one r1
    obtain ⟨a, o, us, rfl, hA, _, ta⟩ := r2.ftup_inv
    refine .inr ⟨a, us, rfl, .inl (.inr ⟨o, hA⟩), q _ H1 s1 fun i H k => ?_⟩
    have qa : SqT X.K H a us := .inl (.inr ⟨o, k.fz a o us hA⟩)
    refine ⟨fun x e => ?_, fun e => ⟨us, qa, by rw [ta.len]; exact zipIdx_end e⟩⟩
    obtain ⟨y, hy, rfl⟩ := zipIdx_at e
    obtain ⟨v, g1, g2⟩ := (reps_tr ta).get hy
    refine ⟨⟨us, v, qa, g1⟩, fun v' H' ⟨T, x, e1, e2, e3, e4⟩ => ?_⟩
    subst e1 e3
    have z := e4 us qa
    rw [g1] at z; cases z
    exact ⟨same_upd e2, .tup upd_same (.cons (.int _) (.cons ((g2.mono (fun _ z => z) k).same (same_upd e2)) .nil))⟩
  · cases h2
end
end PV

namespace PV
variable [LT] [RT]
open PySem PySem.Spec PyProof.Rows L2
def dcRun (t : Bool) (g : Gx) (kx vx : Ex) (e0 : DEnv) : List D → List D → List D → Option (List D × List D)
  | [], ks, vs => some (ks, vs)
  | x :: xs, ks, vs => (g x e0).bind fun e1 => (kx e1).bind fun k => (vx e1).bind fun v => if keyD t k = true ∧ ks.length = vs.length then dcRun t g kx vx e0 xs (dput ks vs k v).1 (dput ks vs k v).2 else none
def dcE (t : Bool) (it : Ax) (g : Tg) (kx vx : Ex) (ws : List Nat) : Ex := fun e => (it e).bind fun xs => if xs.length ≤ szL ∧ noOwn e ws = true then (dcRun t (gD g) kx vx (wip e ws) xs [] []).bind fun r => some (.dic t r.1 r.2) else none
section
variable {X : Cx}
theorem dictSet_tup {pins : List (Addr × Obj)} {σ : L2.St} {H : Hp} {s : Shared} {E : Value → Shared → Prop} {D b : Addr} {kvs : List (List Key × V)} {k : List Key} {v : V} {u r : Value} {Q : Unit → Shared → Prop} (hu : X.A.units + 1 < cLine) (I : Inv X pins σ H s) (hD : H D = some (.dT kvs)) (hz : kvs.length < sizeLine)
    (hb : H b = some (.tup (k.map kV))) (ru : RelV (.ref b) u) (rv : RelV v r) (h : ∀ s', Inv X pins σ (upd H D (.dT (putK kvs k v))) s' → Q () s') : wpAny (model X.prog X.w) X.A (dictSet D u r) Q E s := by
  cases (show u = Value.ref b from ru)
  obtain ⟨z, hd, xs, rel, dd⟩ := dt_of I.hok hD
  have hl := length_putK kvs k v
  refine wpAny_dictSet_heap (hsz := by rw [← Paired.length rel]; exact z) (knd := tupleKind (mixKind X.prog X.w)) (k := k) (by show X.A.units + 1 ≤ cLine; omega) (key_of I.hok hb) dd fun h' dd' hs => h _ ?_
  obtain ⟨o', es, ep, hq, g2, g3, g4, _, g5⟩ := dd'
  have KT1 : KT (upd H D (.dT (putK kvs k v))) (putK kvs k v) (storedH xs k b r) := (rel.put k hb rv).keeps fun c ys ec => (upd_ne (ne_of ec hD fun z => nomatch z)).trans ec
  exact d_write (t' := s.toks + (tupleKind (mixKind X.prog X.w)).draws k) I (by rw [hD]; exact True.intro) hs ⟨o', hq⟩ (ob := .dT (putK kvs k v)) ⟨by omega, hd, _, KT1, o', es, ep, hq, g2, g3, g4, g5⟩
def tDcT (wi : TI) (g : TG) (tk tv : TE) (ws : List Nat) : TE := fun σ H Q => wi σ H fun J H1 => ∀ D, H1 D = none → ∃ Z : Nat → Nat → Hp → Prop, (∃ m, Z 0 m (upd H1 D (.dT []))) ∧ ∀ i m H, Z i m H →
  (J.stop i H ∧ Q (.ref D) H) ∨ (J.go i H ∧ ∃ N : Hp → Prop, (∀ H', N H' → ∃ m', m' < m ∧ Z (i + 1) m' H') ∧ ∀ x H', J.yld i H x H' → g x (wipe σ ws) H' fun σ2 H2 => wipe σ2 ws = wipe σ ws ∧
    tk σ2 H2 fun y H4 => tv σ2 H4 fun z H5 => ∃ kvs b k, y = .ref b ∧ H5 b = some (.tup (k.map kV)) ∧ H5 D = some (.dT kvs) ∧ kvs.length < sizeLine ∧ N (upd H5 D (.dT (putK kvs k z))))
theorem pe_dcT {kx vx tg iter : Expr} {scope : Scope} {own : List (Str × Nat)} {pos : Pos} {wi : TI} {g : TG} {tk tv : TE} (hu : X.A.units + 1 < cLine) (hcalm : X.calm = true) (hnd : X.N.Nodup) (hi : PI X tg iter wi) (ok : BlkOk X.N X.env.scope scope own)
    (hg : ∀ (s : Shared) (H : Hp) (C : Addr) (cl : List (Str × Addr)) (fp : List Addr), PG (X.blk s H scope (compEnvC scope cl C X.env) fp) tg g)
    (hk : ∀ (s : Shared) (H : Hp) (C : Addr) (cl : List (Str × Addr)) (fp : List Addr), PE (X.blk s H scope (compEnvC scope cl C X.env) fp) kx tk)
    (hv : ∀ (s : Shared) (H : Hp) (C : Addr) (cl : List (Str × Addr)) (fp : List Addr), PE (X.blk s H scope (compEnvC scope cl C X.env) fp) vx tv) (hfold : ∀ x, foldedSetIterable iter X.env x = pure x := by intro _; rfl) :
    PE X (.DictComp kx vx [⟨tg, iter, [], 0⟩] scope pos) (tDcT wi g tk tv (own.map (·.2))) := ⟨fun pins s σ H Q I h => by
  rw [arm_eval_DictComp]
  have cap : ∀ y ∈ scope.names, y.2 = .free → ∃ c, X.env.cells.lookup y.1 = some c := fun y hy e => (ok.free y hy e).elim (fun z => I.ok.has _ (.inl z)) fun z => I.ok.has _ (.inr z)
  refine wpAny_comprehension_free (use := none) rfl hfold (closure_ok cap) ok.kind (fun y hy e => by rw [ok.uniq y hy, e]) (thn (hi.run pins s σ H _ I h) fun xv s1 hx => thn hx fun itv s2 ⟨it, fp, tn, J, H2, e, I2, T, st2, f2, q⟩ => ?_)
  subst e
  refine wpAny_newObj_type (newEnv_comp ?_)
  obtain ⟨D, hD⟩ : ∃ D, s2.heap.objs.size = D := ⟨_, rfl⟩
  rw [hD]
  have hDn : H2 D = none := I2.hok.fresh (Nat.le_of_eq hD)
  obtain ⟨Z, ⟨m0, z0⟩, turn⟩ := q D hDn
  obtain ⟨s3, hs3⟩ : ∃ s3 : Shared, ({ s2 with heap := s2.heap.push { cls := .type "dict", data := .dict #[] } } : Shared) = s3 := ⟨_, rfl⟩
  have e3 : s3.heap = s2.heap.push { cls := .type "dict", data := .dict #[] } := by rw [← hs3]
  have I3 : Inv X pins σ (upd H2 D (.dT [])) s3 := by
    rw [← hs3]
    exact I2.laid (t' := s2.toks) (fun b o e => Heap.get?_push_of_some _ e) (Nat.le_of_eq hD) (by rw [← hD]; exact dt_empty s2.heap I2.big)
  have small : ∀ b ∈ fp, b < s2.heap.objs.size := fun b hb => let ⟨o, e, _⟩ := T.obj _ _ st2 b hb; Heap.lt_size e
  have f3 : ∀ b ∈ fp, FpOk X pins (upd H2 D (.dT [])) b ∧ b < s3.heap.objs.size := fun b hb => by
    have hlt := small b hb
    exact ⟨⟨by rw [upd_ne (by rw [← hD]; exact Nat.ne_of_lt hlt)]; exact (f2 b hb).1, (f2 b hb).2⟩, by rw [e3, Heap.size_push]; exact Nat.lt_succ_of_lt hlt⟩
  have st3 : tn 0 s3.heap := T.keep _ _ _ st2 fun b _ o e => by rw [e3]; exact Heap.get?_push_of_some _ e
  have I4 := block_start I3 ok hnd f3
  have pg := hg s3 (upd H2 D (.dT [])) s3.heap.objs.size (cellsFrom (s3.heap.objs.size + 1) scope.names (cloFrom X.env.cells scope.names [])) fp
  have pk := hk s3 (upd H2 D (.dT [])) s3.heap.objs.size (cellsFrom (s3.heap.objs.size + 1) scope.names (cloFrom X.env.cells scope.names [])) fp
  have pv := hv s3 (upd H2 D (.dT [])) s3.heap.objs.size (cellsFrom (s3.heap.objs.size + 1) scope.names (cloFrom X.env.cells scope.names [])) fp
  have none_fp : ∀ b ∈ fp, (upd H2 D (.dT [])) b = none := fun b hb => (f3 b hb).1.1
  rw [hs3]
  obtain ⟨ce, hce⟩ : ∃ ce, compEnvC scope (cellsFrom (s3.heap.objs.size + 1) scope.names (cloFrom X.env.cells scope.names [])) s3.heap.objs.size X.env = ce := ⟨_, rfl⟩
  rw [hce] at I4 pg pk pv
  have cL : ce.locals = s3.heap.objs.size := by subst hce; rfl
  obtain ⟨H3, hH3⟩ : ∃ H3, upd H2 D (.dT []) = H3 := ⟨_, rfl⟩
  rw [hH3] at I3 I4 pg pk pv z0 none_fp f3
  obtain ⟨s4, hs4⟩ : ∃ s4 : Shared, ({ s3 with heap := pushCells (s3.heap.push { cls := .type "dict", data := .dict #[] }) scope.names } : Shared) = s4 := ⟨_, rfl⟩
  rw [hs4] at I4
  have st4 : tn 0 s4.heap := T.keep _ _ _ st3 fun b _ o e => by rw [← hs4]; exact pushCells_keeps _ _ _ _ (Heap.get?_push_of_some _ e)
  have stat : ∀ {σ' : L2.St} {H' : Hp} {s' : Shared}, Inv (X.blk s3 H3 scope ce fp) [] σ' H' s' → (∀ b ∈ fp, H' b = none) → ∀ b ∈ fp, FpOk (X.blk s3 H3 scope ce fp) [] H' b := fun {σ' H' s'} I' hn b hb =>
    ⟨hn b hb, (I'.ok.exf b hb).1, I'.ok.exfs b hb, .inl hb, fun x c e => (I'.ok.exf b hb).2 x c e, fun p hp => absurd (show p ∈ ([] : List (Addr × Obj)) ++ [] from hp) (by simp)⟩
  have loop : codeAny (model X.prog X.w) X.A (.compLoop (.DictComp kx vx [⟨tg, iter, [], 0⟩] scope pos) 0 (.ref it) (.ref D) ce) (compPost (model X.prog X.w) X.A X.xe none (EP X pins σ Q) (.ref D) s3.heap.objs.size) s4 := by
    refine compLoop_anyD (fun n t => ∃ i H', Inv (X.blk s3 H3 scope ce fp) [] (wipe σ (own.map (·.2))) H' t ∧ tn i t.heap ∧ (∀ b ∈ fp, H' b = none) ∧ Z i n H') (fun n s5 ⟨i, H5, I5, st5, n5, z5⟩ => ?_) m0 ⟨0, H3, I4, st4, none_fp, z0⟩
    rcases turn i n H5 z5 with ⟨stop, qq⟩ | ⟨go, N, hN, step⟩
    · refine thnF (T.done (X.blk s3 H3 scope ce fp) rfl rfl rfl hcalm i [] s5 _ H5 (fun _ _ => False) I5 (stat I5 n5) st5 stop) fun r s6 ⟨hr, I6⟩ => ?_
      subst hr
      have I7 : Inv X pins σ H5 s6 := I3.call' (ch := fp) I6.os I6.base I6.hok I6.bare fun b hb => let z := (f3 b hb).1.2; ⟨z.2.2.1, z.1, z.2.2.2.1, z.2.2.2.2⟩
      have nC : H5 s3.heap.objs.size = none := by rw [← cL]; exact I6.free
      obtain ⟨m, hn, _⟩ := I6.loc
      have hn : s6.heap.Ns ce.locals m := hn
      rw [cL] at hn
      refine ⟨m, hn, fun h'' sb => ?_⟩
      obtain ⟨p0, p1, p2, p3, p4, p5⟩ := I3.fpOk (Nat.le_refl _) nC
      exact ⟨.ref D, H5, I7.turned (t' := s6.toks) (fun b o hb e => (sb.2 b hb).trans e) p0 p1 p3 p4 p5, rfl, qq⟩
    · refine thnF (T.item (X.blk s3 H3 scope ce fp) rfl rfl rfl hcalm i [] s5 _ H5 (fun _ _ => False) I5 (stat I5 n5) st5 go) fun r s6 ⟨u, hr, h6⟩ => ?_
      subst hr
      refine thnF h6 fun _ s7 ⟨x, H7, I7, r7, y7, st7, n7⟩ => ?_
      refine thnF (pg.run _ s7 _ H7 x u _ (I7.pinned (stat I7 n7) (T.obj _ _ st7)) r7 (step x H7 y7)) fun _ s8 ⟨σ8, H8, I8, hw8, q8⟩ => wpAny_pure ?_
      simp only [if_true]
      refine thnF (pk.run _ s8 σ8 H8 _ I8 q8) fun kv s10 ⟨yk, H10, I10, r10, q10⟩ => thnF (pv.run _ s10 σ8 H10 _ I10 q10) fun vv s11 ⟨yv, H11, I11, r11, kvs, b, k, ek, hb, hD11, hz11, nx⟩ => ?_
      subst ek
      refine dictSet_tup (X := X.blk s3 H3 scope ce fp) hu I11 hD11 hz11 hb r10 r11 fun s12 I12 => ?_
      obtain ⟨m', hm, z'⟩ := hN _ nx
      have pin' : ∀ b ∈ fp, ∀ o, s7.heap.get? b = some o → s12.heap.get? b = some o ∧ (upd H11 D (.dT (putK kvs k yv))) b = none := fun b hb o e =>
        let z := I12.pin (b, o) (List.mem_append_right _ (List.mem_append_right _ (mem_pinsAt hb e)))
        ⟨z.1, z.2.1⟩
      refine ⟨m', hm, i + 1, _, (I12.unpinned (pins := [])).weak (by rw [← wipe_length σ8 (own.map (·.2)), hw8]) (fun j v e => ?_), T.keep _ _ _ st7 fun b hb o e => (pin' b hb o e).1, fun b hb => ?_, z'⟩
      · rw [← hw8] at e
        exact (wipe_some e).1
      · obtain ⟨o, e, _⟩ := T.obj _ _ st7 b hb
        exact (pin' b hb o e).2
  subst hs4 hce
  exact codeAny_compStart_dict loop (T.self X.A 0 _ _ _ st4 loop)⟩
end
end PV

namespace PV
variable [LT] [RT]
open PySem PySem.Spec PyProof.Rows L2
def ItX (d : Addr) (o : Obj) (kvs : List (List Key × V)) : It :=
  ⟨fun i H => H d = some (.frz o (.dT kvs)) ∧ i < kvs.length, fun i H x H' => ∃ T k v b, kvs[i]? = some (k, v) ∧ x = .ref T ∧ H T = none ∧ H b = some (.tup (k.map kV)) ∧ H' = upd H T (.tup [.ref b, v]), fun i H => H d = some (.frz o (.dT kvs)) ∧ kvs.length ≤ i⟩
section
variable {X : Cx} {pins : List (Addr × Obj)} {σ : L2.St} {H : Hp} {s : Shared} {d : Addr} {o : Obj}
theorem frz_items {kvs : List (List Key × V)} (I : Inv X pins σ H s) (h : H d = some (.frz o (.dT kvs))) : (d == sysModules) = false ∧ ∃ (es : Array DictEntry) (ep : Nat), DT.Raw s.heap d es ep ∧ o.data = .dict es ep ∧ es.size = kvs.length ∧
    ∀ (i : Nat) (k : List Key) (v : V), kvs[i]? = some (k, v) → ∃ (en : DictEntry) (q : Addr), es[i]? = some en ∧ en.key = .ref q ∧ H q = some (.tup (k.map kV)) ∧ RelV v en.val := by
  obtain ⟨hd, z, hs, xs, pr, o', es, ep, ho, hx, hdt, he, _⟩ := I.hok d _ h
  have ho' := hd
  rw [ho] at ho'
  cases ho'
  refine ⟨hs, es, ep, ⟨_, ho, hx, hdt⟩, hdt, ?_, fun i k v e => ?_⟩
  · have l1 : es.size = xs.length := size_of_entries he
    have l2 : kvs.length = xs.length := Paired.length pr
    omega
  · obtain ⟨b, hb, e1, e2, e3⟩ := paired_get pr e
    have q := entry_at he i
    rw [hb] at q
    cases hen : es[i]? with
    | none => rw [hen] at q; cases q
    | some en =>
      rw [hen] at q
      cases q
      exact ⟨_, b.2.1, rfl, rfl, e2, e3⟩
end
theorem turn_itemsT {P : Program} {w : World} {K : PySem.W.Frag} {d : Addr} {o : Obj} {es : Array DictEntry} {ep : Nat} {kvs : List (List Key × V)} {elts : List Expr} {kk : Nat} {tpos : Pos} (it : Addr) (hod : o.data = .dict es ep) :
    Turn P w K (.Tuple elts kk tpos) (ItX d o kvs) [it] it (fun i h => ∃ ok ov, IsItemIter h it d i kvs.length ep ok ov) where
  mem := by simp
  obj := fun i h ⟨ok, ov, e⟩ b hb => by
    rw [List.mem_singleton.mp hb]
    exact ⟨_, e, fun v z => nomatch z⟩
  keep := fun i h h' ⟨ok, ov, e⟩ k => ⟨ok, ov, k it (by simp) _ e⟩
  item := by
    intro X hP hw hK hc i pins s σ H E I hf ⟨ok, ov, he⟩ ⟨hd, hi⟩
    subst hP hw hK
    obtain ⟨hs, es', ep', hraw, hdt, hsz, ent⟩ := frz_items I hd
    rw [hod] at hdt
    cases hdt
    obtain ⟨⟨k, v⟩, hkv⟩ : ∃ p, kvs[i]? = some p := ⟨kvs[i], List.getElem?_eq_getElem hi⟩
    obtain ⟨en, q, hen, hkey, hq, hv⟩ := ent i k v hkv
    have hie : i < es.size := by omega
    have hen2 : es[i] = en := by rw [Array.getElem?_eq_getElem hie] at hen; exact Option.some.inj hen
    rw [← hsz] at he
    have hlt : it < s.heap.objs.size := Heap.lt_size he
    refine DT.nextI he hraw hie fun h' ho hT hz hk => ?_
    rw [hen2, hkey] at ho hT
    refine ⟨_, rfl, wpAny_letOwnedTupleGo_items (s := { s with heap := h' }) ho fun h'' he' sb => ?_⟩
    have hT2 : h''.get? s.heap.objs.size = some { cls := .type "tuple", data := .seq #[.ref q, en.val] } := (sb.2 _ (Nat.ne_of_gt hlt)).trans hT
    have new : ObjOk X.prog X.w (upd H s.heap.objs.size (.tup [.ref q, v])) h'' s.heap.objs.size (.tup [.ref q, v]) := ⟨by show 2 ≤ sizeLine; decide, [.ref q, en.val], .cons rfl (.cons hv .nil), ⟨_, hT2, rfl, _, rfl⟩⟩
    have I1 : Inv X pins σ (upd H s.heap.objs.size (.tup [.ref q, v])) { s with heap := h'' } :=
      I.turnedNew (t' := s.toks) (ch := [it]) (fun b ob hb e => (sb.2 b (by simpa using hb)).trans (hk b ob (by simpa using hb) e)) hf (Nat.le_refl _) new
    refine ⟨.ref s.heap.objs.size, _, I1, rfl, ⟨_, k, v, q, hkv, rfl, I.hok.fresh (Nat.le_refl _), hq, rfl⟩, ⟨_, _, by rw [← hsz]; exact he'⟩, fun b hb => ?_⟩
    rw [List.mem_singleton.mp hb, upd_ne (Nat.ne_of_lt hlt)]
    exact (hf it (by simp)).1
  done := by
    intro X hP hw hK hc i pins s σ H E I hf ⟨ok, ov, he⟩ ⟨hd, hi⟩
    subst hP hw hK
    obtain ⟨f0, f1, f2, f3, f4, f5⟩ := hf it (by simp)
    obtain ⟨hs, es', ep', hraw, hdt, hsz, ent⟩ := frz_items I hd
    rw [hod] at hdt
    cases hdt
    rw [← hsz] at he
    exact DT.endI (I.ok.hd hc) he hraw (by omega) fun h' eb => ⟨rfl, I.turned (t' := s.toks) (fun b ob hb e => eb b ob hb e) f0 f1 f3 f4 f5⟩
  self := fun A i s Q E st h => let ⟨_, _, e⟩ := st; PySem.W.kcp_self e h
section
variable {X : Cx}
def tItT (td : TE) : TI := fun σ H R => td σ H fun x H1 => ∃ d o kvs, x = .ref d ∧ H1 d = some (.frz o (.dT kvs)) ∧ R (ItX d o kvs) H1
theorem pi_itemsT {e : Expr} {td : TE} {apos cpos : Pos} {elts : List Expr} {kk : Nat} {tpos : Pos} (he : PE X e td) (hbase : attributeBase e "items" X.env (eval e X.env) = eval e X.env := by rfl) (hline : (apos.endLine == cpos.line) = true := by rfl) :
    PI X (.Tuple elts kk tpos) (.Call (.Attribute e "items" apos) [] [] cpos) (tItT td) := ⟨fun pins s σ H R I h => by
  refine wpAny_Call_method (T := "dict") (id := "dict.items") hbase rfl hline F.plainAttrs_dict F.slot_dict_items F.type_dict_items (thn (he.run pins s σ H _ I h) fun u s1 ⟨x, H1, I1, rx, d, o, kvs, ex, hd, q⟩ => ?_)
  subst ex
  obtain rfl : u = Value.ref d := rx
  obtain ⟨hs, es, ep, hraw, hdt, hsz, ent⟩ := frz_items I1 hd
  have nd := hraw
  obtain ⟨od, hod, hxd, hdat⟩ := nd
  refine ⟨hraw.typeIs, fun a ea => by cases ea; exact ⟨od, hod, hxd.2.1⟩, ?_⟩
  have I2 : Inv X pins σ H1 { s1 with heap := s1.heap.push { cls := .type "dict_items", data := .fields #[.ref d] } } := I1.kept (t' := s1.toks) fun b ob q => Heap.get?_push_of_some _ q
  show wpAny _ _ (callWith cpos (.builtin "dict.items") [.ref d] [] []) _ X.xe s1
  refine method_meetsIn F.slot_dict_items F.entry_dict_items rfl (PySem.evalArgs_none ⟨rfl, hraw.typeIs, F.args_dict_items_1 _, _, DT.meetsItems (es := es) (ep := ep) hs, hraw, ?_⟩)
  refine DT.iterI (d := d) ⟨_, Heap.get?_push_size _ rfl, rfl, rfl⟩ (hraw.push _) (pi_one (tk := s1.toks) I2 _ (turn_itemsT _ hdt) ⟨.none, .none, ?_⟩ q)
  rw [← hsz]
  exact Heap.get?_push_size _ rfl⟩
end
end PV

namespace PV
variable [LT] [RT]
open PySem PySem.Spec PyProof.Rows L2
def WalksS (mg : Str → Option Value) (A : Addr → Prop) (J : It) (ds : List D) (H1 : Hp) : Prop := ∀ (i : Nat) H, Same H1 H → (∀ x, ds[i]? = some x → J.go i H ∧ ∀ v H', J.yld i H v H' → Same H H' ∧ Rep mg A H' v x) ∧ (ds[i]? = none → J.stop i H)
theorem dc_walk {K : PySem.W.Frag} {mg : Str → Option Value} {B : Bs} {O : Nat → Option Addr} {env : DEnv} {J : It} {xs : List D} {g : Tg} {kx vx : Ex} {ws : List Nat} {σ : L2.St} {H1 : Hp} {Q : VK} {r : List D × List D} (hw : ∀ i ∈ g.slots, i ∈ ws) (rl1 : ERel K mg B O σ H1 env) (hz : xs.length ≤ szL) (hno : noOwn env ws = true)
    (hr : dcRun true (gD g) kx vx (PV.wip env ws) xs [] [] = some r) (wk : WalksS mg (fun a => Lv B O false a ∧ ∃ o, H1 a = some o) J xs H1) (q : ∀ p H', Same H1 H' → H1 p = none → Own mg (fun a => Lv B O false a ∧ a ≠ p) H' p (.dic true r.1 r.2) → Q (.ref p) H') :
    ∀ D, H1 D = none → ∃ Z : Nat → Nat → Hp → Prop, (∃ m, Z 0 m (upd H1 D (.dT []))) ∧ ∀ i m H, Z i m H → (J.stop i H ∧ Q (.ref D) H) ∨ (J.go i H ∧ ∃ N : Hp → Prop, (∀ H', N H' → ∃ m', m' < m ∧ Z (i + 1) m' H') ∧ ∀ x H', J.yld i H x H' → (tgR K g) x (wipe σ ws) H' fun σ2 H2 => wipe σ2 ws = wipe σ ws ∧
    tE K mg false kx σ2 H2 fun y H4 => tE K mg false vx σ2 H4 fun z H5 => ∃ kvs b k, y = .ref b ∧ H5 b = some (.tup (k.map kV)) ∧ H5 D = some (.dT kvs) ∧ kvs.length < sizeLine ∧ N (upd H5 D (.dT (putK kvs k z)))) := by
  intro D hD
  have inw : ∀ i ∈ ws, i < σ.length := fun i hi => by
    have z := List.all_eq_true.mp hno i hi
    rw [← rl1.len]
    cases e : (env[i]? : Option DSlot) with
    | none => rw [e] at z; cases z
    | some x => exact (List.getElem?_eq_some_iff.mp e).1
  have outO : ∀ i ∈ ws, O i = none := fun i hi => rl1.noO hno hi (by rw [rl1.len]; exact inw i hi)
  obtain ⟨n, hnl, rm, sub⟩ := (rl1.wip ws hno).more (o := .dT []) hD trivial
  have hOn : putO O n D n = some D := by unfold putO; rw [if_pos rfl]
  have wl : (PV.wip env ws).length = σ.length := by rw [wip_len]; exact rl1.len
  have outP : ∀ i ∈ g.slots, putO O n D i = none := fun i hi => by
    have := inw i (hw i hi)
    unfold putO
    rw [if_neg (by omega)]
    exact outO i (hw i hi)
  refine ⟨fun i m H' => m = xs.length - i ∧ i ≤ xs.length ∧ ∃ (kvs : List (List Key × V)) (vs : List PV.D), H' D = some (.dT kvs) ∧ ERel K mg B (putO O n D) (wipe σ ws) H' (PV.wip env ws) ∧ Reps mg (Lv B (putO O n D) false) H' (kvs.map (·.2)) vs ∧ kvs.length ≤ i ∧ dcRun true (gD g) kx vx (PV.wip env ws) (xs.drop i) (kvs.map fun p => .tup (p.1.map kD)) vs = some r ∧ Same H1 H',
    ⟨xs.length, by simp, Nat.zero_le _, [], [], upd_same, rm, .nil, Nat.le_refl _, by simpa using hr, same_upd hD⟩, ?_⟩
  rintro i m H' ⟨rfl, hi', kvs, vs, hHD, rl', rs, hlen, hrun, sm⟩
  by_cases hlt : i < xs.length
  · have hxi : xs[i]? = some xs[i] := List.getElem?_eq_getElem hlt
    obtain ⟨go, yl⟩ := (wk i H' sm).1 _ hxi
    rw [List.drop_eq_getElem_cons hlt] at hrun
    unfold dcRun at hrun
    obtain ⟨e1, he1, hrun⟩ := bnd hrun
    obtain ⟨kd, hkd, hrun⟩ := bnd hrun
    obtain ⟨vd, hvd, hrun⟩ := bnd hrun
    split at hrun
    · rename_i hkey
      refine .inr ⟨go, fun H'' => ∃ (kvs : List (List Key × V)) (vs : List PV.D), H'' D = some (.dT kvs) ∧ ERel K mg B (putO O n D) (wipe σ ws) H'' (PV.wip env ws) ∧ Reps mg (Lv B (putO O n D) false) H'' (kvs.map (·.2)) vs ∧ kvs.length ≤ i + 1 ∧ dcRun true (gD g) kx vx (PV.wip env ws) (xs.drop (i + 1)) (kvs.map fun p => .tup (p.1.map kD)) vs = some r ∧ Same H1 H'',
        fun H'' z => ⟨xs.length - (i + 1), by omega, rfl, hlt, z⟩, fun v H3 y => ?_⟩
      obtain ⟨s3, rv⟩ := yl v H3 y
      have rl3 := rl'.heap s3
      have rv' : Rep mg (Lv B (putO O n D) false) H3 v xs[i] := rv.mono (fun a ha => ⟨ha.1.1, .inr fun j z => by
        unfold putO at z
        split at z
        · cases z
          obtain ⟨o, ho⟩ := ha.2
          rw [hD] at ho; cases ho
        · exact ha.1.2.elim (fun z => Bool.noConfusion z) fun w => w j z⟩) keepRefl
      refine tgR_oks g rl3 outP rv' he1 fun σ4 r4 w4 => ⟨by rw [w4 ws hw]; exact wipe_idem, ?_⟩
      refine ⟨B, _, e1, kd, r4, hkd, fun y4 H4 s4 rk => ⟨B, _, e1, vd, r4.heap s4, hvd, fun z5 H5 s5 rz => ?_⟩⟩
      obtain ⟨ks, b, rfl, hb, rfl⟩ := keyT_rep rk hkey.1
      have s35 := s3.trans (s4.trans s5)
      have hD5 : H5 D = some (.dT kvs) := s35 _ _ hHD
      have rl5 := rl'.heap s35
      obtain ⟨z1, z2⟩ := dput_put eqv_kT (k := ks) rz (rs.same s35)
      have lk := length_putK kvs ks z5
      have k := keep_write (o' := .dT (putK kvs ks z5)) rl5 hOn
      refine ⟨kvs, b, ks, rfl, s5 _ _ hb, hD5, ?_, putK kvs ks z5, (dput (kvs.map fun p => .tup (p.1.map kD)) vs (.tup (ks.map kD)) vd).2, upd_same, rl5.poke hOn (by omega) trivial, z2.mono (fun _ z => z) k, by omega, by rw [z1]; exact hrun, ?_⟩
      · have hz' := szL_ok hz
        omega
      · exact (sm.trans s35).put hD hD5 trivial
    · cases hrun
  · have hn : xs[i]? = none := List.getElem?_eq_none (by omega)
    have hdr : xs.drop i = [] := List.drop_eq_nil_of_le (by omega)
    rw [hdr] at hrun
    unfold dcRun at hrun
    cases hrun
    refine .inl ⟨(wk i H' sm).2 hn, q D H' sm hD (.dicT hHD (rs.mono (fun a ha => ⟨sub false a ha, fun z => ?_⟩) keepRefl))⟩
    subst z
    exact ha.2.elim (fun z => Bool.noConfusion z) fun w => w n hOn
end PV

namespace PV
variable [LT] [RT]
open PySem PySem.Spec PyProof.Rows L2
def itemsD : D → Option (List D)
  | .dic true ks vs => some ((ks.zip vs).map fun p => .tup [p.1, p.2])
  | _ => none
def iItm (a : Ex) : Ax := fun e => (a e).bind itemsD
theorem _root_.L2.PE.or {X : Cx} {e : Expr} {t t' : TE} (h : PE X e t) (h' : PE X e t') : PE X e (fun σ H Q => t σ H Q ∨ t' σ H Q) := ⟨fun pins s σ H Q I q => q.elim (h.run pins s σ H Q I) (h'.run pins s σ H Q I)⟩
section
variable {mg : Str → Option Value} {A : Addr → Prop} {H : Hp} {d : Addr} {od : Obj} {kvs : List (List Key × V)}
theorem keep_lock (hd : H d = some (.dT kvs)) : Keep A H (upd H d (.frz od (.dT kvs))) := by
  refine ⟨fun a u _ _ r => ?_, fun a C dx fs _ e => ?_, fun a xs _ e => ?_, fun a xs e => ?_, fun a ob xs e => ?_⟩
  · by_cases ha : a = d
    · subst ha
      rcases r with r | ⟨o, r⟩
      · rw [hd] at r; cases r; exact .inr ⟨od, upd_same⟩
      · rw [hd] at r; cases r
    · rcases r with r | ⟨o, r⟩
      · exact .inl (by rw [upd_ne ha]; exact r)
      · exact .inr ⟨o, by rw [upd_ne ha]; exact r⟩
  · rw [upd_ne (fun z => by subst z; rw [hd] at e; cases e)]; exact e
  · rw [upd_ne (fun z => by subst z; rw [hd] at e; cases e)]; exact e
  · rw [upd_ne (fun z => by subst z; rw [hd] at e; cases e)]; exact e
  · rw [upd_ne (fun z => by subst z; rw [hd] at e; cases e)]; exact e
theorem tabS_unlock {P : Addr} {q : Str} {o' : HO} (hd : H d = some (.frz od (.dT kvs))) (t : LamX.TabS H P q) : LamX.TabS (upd H d o') P q := by
  obtain ⟨ps, h1, h2, h3⟩ := t
  have ne : P ≠ d := fun e => by subst e; rw [hd] at h1; cases h1
  refine ⟨ps, by rw [upd_ne ne]; exact h1, h2, fun pos cv hc => ?_⟩
  obtain ⟨c, e1, e2⟩ := h3 pos cv hc
  have nc : c ≠ d := fun e => by subst e; rw [hd] at e2; cases e2
  exact ⟨c, e1, by rw [upd_ne nc]; exact e2⟩
theorem rd_unlock {a : Addr} {u : HO} (hd : H d = some (.frz od (.dT kvs))) (r : Rd H a u) (hu : ∀ o w, u ≠ .frz o w) : Rd (upd H d (.dT kvs)) a u := by
  by_cases ha : a = d
  · subst ha
    rcases r with r | ⟨o, r⟩
    · rw [hd] at r; cases r; exact absurd rfl (hu _ _)
    · rw [hd] at r; cases r; exact .inl upd_same
  · rcases r with r | ⟨o, r⟩
    · exact .inl (by rw [upd_ne ha]; exact r)
    · exact .inr ⟨o, by rw [upd_ne ha]; exact r⟩
theorem at_unlock {a : Addr} {u : HO} (hd : H d = some (.frz od (.dT kvs))) (e : H a = some u) (hu : ∀ o w, u ≠ .frz o w) : upd H d (.dT kvs) a = some u := by
  rw [upd_ne (fun z => by subst z; rw [hd] at e; cases e; exact hu _ _ rfl)]; exact e
mutual
theorem Rep.unlock (hd : H d = some (.frz od (.dT kvs))) : ∀ {v : V} {x : PV.D}, Rep mg A H v x → Rep mg A (upd H d (.dT kvs)) v x
  | _, _, .non => .non
  | _, _, .bl b => .bl b
  | _, _, .int i => .int i
  | _, _, .str x => .str x
  | _, _, .tup h r => .tup (at_unlock hd h fun _ _ z => nomatch z) (Reps.unlock hd r)
  | _, _, .ftup h d r => .ftup (by rw [upd_ne (fun z => by subst z; rw [hd] at h; cases h)]; exact h) d (Reps.unlock hd r)
  | _, _, .lst a h r => .lst a (at_unlock hd h fun _ _ z => nomatch z) (Reps.unlock hd r)
  | _, _, .scr a h => .scr a (rd_unlock hd h fun _ _ z => nomatch z)
  | _, _, .dicK a h r => .dicK a (rd_unlock hd h fun _ _ z => nomatch z) (Reps.unlock hd r)
  | _, _, .dicT a h r => .dicT a (rd_unlock hd h fun _ _ z => nomatch z) (Reps.unlock hd r)
  | _, _, .ins a h c r => .ins a (at_unlock hd h fun _ _ z => nomatch z) c (Reps.unlock hd r)
theorem Reps.unlock (hd : H d = some (.frz od (.dT kvs))) : ∀ {vs : List V} {xs : List PV.D}, Reps mg A H vs xs → Reps mg A (upd H d (.dT kvs)) vs xs
  | _, _, .nil => .nil
  | _, _, .cons h t => .cons (Rep.unlock hd h) (Reps.unlock hd t)
end
end
section
variable {K : PySem.W.Frag} {mg : Str → Option Value} {B : Bs} {O : Nat → Option Addr} {env : DEnv} {σ : L2.St} {H : Hp} {d : Addr} {kvs : List (List Key × V)}
def isDT : Option HO → Bool
  | some (.dT _) => true
  | _ => false
theorem lockH_tabs (B : Bs) (d : Addr) (od : Obj) (kvs : List (List Key × V)) : LamX.Tabs LT.T (fun b => if b = d ∧ isDT (B.H0 d) = true then some (HO.frz od (.dT kvs)) else B.H0 b) := fun p hp => by
  have go : ∀ {a : Addr} {u : HO}, B.H0 a = some u → (∀ w, u ≠ .dT w) → (if a = d ∧ isDT (B.H0 d) = true then some (HO.frz od (.dT kvs)) else B.H0 a) = some u := fun {a u} e hu => by
    rw [if_neg]
    · exact e
    · rintro ⟨rfl, z⟩
      rw [e] at z
      cases u <;> first | exact absurd rfl (hu _) | cases z
  obtain ⟨ps, h1, h2, h3⟩ := B.tb p hp
  refine ⟨ps, go h1 (fun _ z => nomatch z), h2, fun pos cv hc => ?_⟩
  obtain ⟨c, e1, e2⟩ := h3 pos cv hc
  exact ⟨c, e1, go e2 (fun _ z => nomatch z)⟩
def lockB (B : Bs) (d : Addr) (od : Obj) (kvs : List (List Key × V)) : Bs := ⟨fun b => if b = d ∧ isDT (B.H0 d) = true then some (.frz od (.dT kvs)) else B.H0 b, B.A0, B.sf, lockH_tabs B d od kvs⟩
theorem lockB_none {od : Obj} {a : Addr} : (lockB B d od kvs).H0 a = none ↔ B.H0 a = none := by
  show (if a = d ∧ isDT (B.H0 d) = true then some (HO.frz od (.dT kvs)) else B.H0 a) = none ↔ _
  split
  · rename_i h
    obtain ⟨rfl, h2⟩ := h
    constructor
    · intro z; cases z
    · intro z; rw [z] at h2; cases h2
  · exact Iff.rfl
theorem lockB_Lv {od : Obj} {τ : Bool} {a : Addr} : Lv (lockB B d od kvs) O τ a ↔ Lv B O τ a := by
  unfold Lv
  rw [lockB_none]
  exact Iff.rfl
theorem lockB_tab {od : Obj} {P : Addr} {q : Str} (t : LamX.TabS (lockB B d od kvs).H0 P q) : LamX.TabS B.H0 P q := by
  have go : ∀ {a : Addr} {u : HO}, (lockB B d od kvs).H0 a = some u → (∀ o w, u ≠ .frz o w) → B.H0 a = some u := fun {a u} e hu => by
    have e' : (if a = d ∧ isDT (B.H0 d) = true then some (HO.frz od (.dT kvs)) else B.H0 a) = some u := e
    split at e'
    · cases e'; exact absurd rfl (hu _ _)
    · exact e'
  obtain ⟨ps, h1, h2, h3⟩ := t
  refine ⟨ps, go h1 (fun _ _ z => nomatch z), h2, fun pos cv hc => ?_⟩
  obtain ⟨c, e1, e2⟩ := h3 pos cv hc
  exact ⟨c, e1, go e2 (fun _ _ z => nomatch z)⟩
theorem ERel.lock (od : Obj) (rl : ERel K mg B O σ H env) (hd : H d = some (.dT kvs)) (hO : ∀ j, O j ≠ some d) : ERel K mg (lockB B d od kvs) O σ (upd H d (.frz od (.dT kvs))) env := by
  have k : ∀ {A : Addr → Prop}, Keep A H (upd H d (.frz od (.dT kvs))) := keep_lock hd
  have up : ∀ {τ a}, Lv B O τ a → Lv (lockB B d od kvs) O τ a := fun h => lockB_Lv.mpr h
  have ne : ∀ {j p}, O j = some p → p ≠ d := fun h z => hO _ (by rw [h, z])
  refine ⟨rl.len, ⟨fun b u e _ => ?_, fun t p2 hp2 => tabS_upd hd trivial (rl.same.tab (fun p3 hp3 => lockB_tab (t p3 hp3)) p2 hp2), fun b h => lockB_none.mpr (rl.same.dom b (dom_upd h))⟩, fun i x e => ?_, fun i x e => ?_, fun i x e => ?_, rl.inj, fun i p e => ?_, fun i p e => lockB_none.mpr (rl.fr0 i p e), rl.bd, rl.nst⟩
  · by_cases hb : b = d
    · subst hb
      have e' : (if b = b ∧ isDT (B.H0 b) = true then some (HO.frz od (.dT kvs)) else B.H0 b) = some u := e
      split at e'
      · rw [upd_same]; exact e'
      · rename_i h
        have eu := rl.same.stay b u e'
        rw [hd] at eu
        have : isDT (B.H0 b) = true := by rw [e', ← Option.some.inj eu]; rfl
        exact absurd ⟨rfl, this⟩ h
    · have e' : (if b = d ∧ isDT (B.H0 d) = true then some (HO.frz od (.dT kvs)) else B.H0 b) = some u := e
      rw [if_neg (fun z => hb z.1)] at e'
      rw [upd_ne hb]; exact rl.same b u e'
  · obtain ⟨v, h1, h2⟩ := rl.vals i x e
    exact ⟨v, h1, h2.mono (fun _ h => up h) k⟩
  · obtain ⟨p, h1, h2, h3, h4⟩ := rl.owns i x e
    exact ⟨p, h1, h2, lockB_none.mpr h3, h4.mono (fun _ h => up h) k fun o z _ => by rw [upd_ne (ne h1)]; exact z⟩
  · obtain ⟨h1, h2, h3⟩ := rl.slfs i x e
    exact ⟨h1, h2, h3.mono (fun _ h => up h) k fun o z _ => by rw [upd_ne (ne h1)]; exact z⟩
  · obtain ⟨o, h1, h2⟩ := rl.trk i p e
    exact ⟨o, by rw [upd_ne (ne e)]; exact h1, h2⟩
theorem walks_items {A : Addr → Prop} {o : Obj} {vs : List PV.D} (hd : H d = some (.frz o (.dT kvs))) (rs : Reps mg A H (kvs.map (·.2)) vs) : WalksS mg A (ItX d o kvs) (((kvs.map fun p => PV.D.tup (p.1.map kD)).zip vs).map fun p => .tup [p.1, p.2]) H := by
  intro i H' s
  have hlen : kvs.length = vs.length := by have := rs.len; simpa using this
  refine ⟨fun x e => ?_, fun e => ⟨s _ _ hd, ?_⟩⟩
  · rw [List.getElem?_map] at e
    obtain ⟨p, hp, e⟩ := Option.map_eq_some_iff.mp e
    obtain ⟨h3, h4⟩ := List.getElem?_zip_eq_some.mp hp
    rw [List.getElem?_map] at h3
    obtain ⟨kv, hkv, h3⟩ := Option.map_eq_some_iff.mp h3
    refine ⟨⟨s _ _ hd, (List.getElem?_eq_some_iff.mp hkv).1⟩, fun v H'' ⟨T, k, w, b, e1, e2, e3, e4, e5⟩ => ?_⟩
    rw [hkv] at e1
    cases e1
    subst e2 e5
    obtain ⟨v2, g1, g2⟩ := rs.get h4
    rw [List.getElem?_map, hkv] at g1
    cases g1
    refine ⟨same_upd e3, ?_⟩
    rw [← e, ← h3]
    have s2 := s.trans (same_upd (o := .tup [.ref b, w]) e3)
    have kr : ∀ ks : List Key, Reps mg A (upd H' T (.tup [.ref b, w])) (ks.map kV) (ks.map kD) := fun ks => by
      induction ks with
      | nil => exact .nil
      | cons a ks ih => cases a with
        | inl i => exact .cons (.int i) ih
        | inr x => exact .cons (.str x) ih
    exact .tup upd_same (.cons (.tup ((same_upd e3) _ _ e4) (kr k)) (.cons (g2.same s2) .nil))
  · have h := List.getElem?_eq_none_iff.mp e
    simp only [List.length_map, List.length_zip] at h
    omega
end
theorem rep_dicT {mg : Str → Option Value} {A : Addr → Prop} {H : Hp} {v : V} {ks vs : List PV.D} (r : Rep mg A H v (.dic true ks vs)) : ∃ d kvs, v = .ref d ∧ A d ∧ Rd H d (.dT kvs) ∧ ks = kvs.map (fun p => PV.D.tup (p.1.map kD)) ∧ Reps mg A H (kvs.map (·.2)) vs := by
  cases r with
  | dicT a h t => exact ⟨_, _, rfl, a, h, rfl, t⟩
section
variable {X : Cx}
theorem sn_dc {kx vx tg iter : Expr} {scope : Scope} {own : List (Str × Nat)} {pos : Pos} {di : Ax} {g : Tg} {dk dv : Ex} (hu : X.A.units + 1 < cLine) (hc : X.calm = true) (hN : X.N.Nodup) (hi : SI X tg iter di) (ok : BlkOk X.N X.env.scope scope own)
    (hg : ∀ (s : Shared) (H : Hp) (C : Addr) (cl : List (Str × Addr)) (fp : List Addr), PT1 (X.blk s H scope (compEnvC scope cl C X.env) fp) tg g)
    (hk : ∀ (s : Shared) (H : Hp) (C : Addr) (cl : List (Str × Addr)) (fp : List Addr), SE (X.blk s H scope (compEnvC scope cl C X.env) fp) false kx dk)
    (hv : ∀ (s : Shared) (H : Hp) (C : Addr) (cl : List (Str × Addr)) (fp : List Addr), SE (X.blk s H scope (compEnvC scope cl C X.env) fp) false vx dv) (hw : ∀ i ∈ g.slots, i ∈ own.map (·.2) := by decide) (hs : ∀ x, foldedSetIterable iter X.env x = pure x := by intro _; rfl) {ws : List Nat} (hws : own.map (·.2) = ws := by rfl) :
    SN X (.DictComp kx vx [⟨tg, iter, [], 0⟩] scope pos) (dcE true di g dk dv ws) := by
  subst hws
  refine (pe_dcT (tk := tE X.K X.mg false dk) (tv := tE X.K X.mg false dv) hu hc hN hi ok (g := tgR X.K g) hg hk hv hs).weak fun σ H Q ⟨B, O, env, d, rl, e, q⟩ => ?_
  obtain ⟨xs, hx, e⟩ := bnd e
  split at e
  · rename_i hz
    obtain ⟨r, hr, e⟩ := bnd e
    cases e
    exact ⟨B, O, env, xs, rl, hx, fun J H1 s1 wk => dc_walk hw (rl.heap s1) hz.1 hz.2 hr (fun i H' s => wk i H' (Same.keep s)) fun p H' s hp o => q p H' (s1.trans s) (Same.free s1 hp) o⟩
  · cases e
theorem sn_dcItems {kx vx : Expr} {elts : List Expr} {kk : Nat} {tpos : Pos} {scope : Scope} {own : List (Str × Nat)} {pos px apos cpos : Pos} {i : Nat} {x : Str} {g : Tg} {dk dv : Ex} (hu : X.A.units + 1 < cLine) (hc : X.calm = true) (hN : X.N.Nodup) (ok : BlkOk X.N X.env.scope scope own)
    (hg : ∀ (s : Shared) (H : Hp) (C : Addr) (cl : List (Str × Addr)) (fp : List Addr), PT1 (X.blk s H scope (compEnvC scope cl C X.env) fp) (.Tuple elts kk tpos) g)
    (hk : ∀ (s : Shared) (H : Hp) (C : Addr) (cl : List (Str × Addr)) (fp : List Addr), SE (X.blk s H scope (compEnvC scope cl C X.env) fp) false kx dk)
    (hv : ∀ (s : Shared) (H : Hp) (C : Addr) (cl : List (Str × Addr)) (fp : List Addr), SE (X.blk s H scope (compEnvC scope cl C X.env) fp) false vx dv)
    (hNx : X.N[i]? = some x := by rfl) (hvx : Vis X.env.scope x := by first | exact Or.inl rfl | exact Or.inr (Or.inl rfl) | exact Or.inr (Or.inr rfl)) (hdx : (x == ("__debug__" : Str)) = false := by decide) (hcdx : (x == ("__classdict__" : Str)) = false := by decide)
    (hbase : attributeBase (.Name x px) "items" X.env (eval (.Name x px) X.env) = eval (.Name x px) X.env := by rfl) (hline : (apos.endLine == cpos.line) = true := by rfl)
    (hw : ∀ i ∈ g.slots, i ∈ own.map (·.2) := by decide) (hs : ∀ y, foldedSetIterable (.Call (.Attribute (.Name x px) "items" apos) [] [] cpos) X.env y = pure y := by intro _; rfl) {ws : List Nat} (hws : own.map (·.2) = ws := by rfl) :
    SN X (.DictComp kx vx [⟨.Tuple elts kk tpos, .Call (.Attribute (.Name x px) "items" apos) [] [] cpos, [], 0⟩] scope pos) (dcE true (iItm (var i)) g dk dv ws) := by
  subst hws
  have base := pe_dcT (tk := tE X.K X.mg false dk) (tv := tE X.K X.mg false dv) hu hc hN (pi_itemsT (elts := elts) (kk := kk) (tpos := tpos) (pe_var hNx hvx hdx hcdx) hbase hline) ok (g := tgR X.K g) hg hk hv hs (pos := pos)
  refine ((pe_lock base).or base).weak fun σ H Q ⟨B, O, env, dd, rl, e, q⟩ => ?_
  obtain ⟨xs, hx, e⟩ := bnd e
  obtain ⟨y, hy, hx⟩ := bnd hx
  unfold var at hy
  split at hy
  · rename_i y' hi
    cases hy
    split at e
    · rename_i hz
      obtain ⟨r, hr, e⟩ := bnd e
      cases e
      obtain ⟨v, hσ, rv⟩ := rl.vals i _ hi
      unfold itemsD at hx
      split at hx
      · cases hx
        obtain ⟨d, kvs, rfl, hA, hR, hks, rs⟩ := rep_dicT rv
        subst hks
        rcases hR with hd | ⟨od, hd⟩
        · have hO : ∀ j, O j ≠ some d := fun j z => hA.2.elim (fun w => Bool.noConfusion w) fun w => w j z
          refine .inl ⟨d, .dT kvs, hd, True.intro, fun od => ⟨.ref d, hσ, d, od, kvs, rfl, upd_same, ?_⟩⟩
          have rl' := rl.lock od hd hO
          refine dc_walk (Q := fun v H' => H' d = some (.frz od (.dT kvs)) ∧ Q v (upd H' d (.dT kvs))) hw rl' hz.1 hz.2 hr (walks_items upd_same ?_) fun p H' s hp o => ?_
          · have z : Reps X.mg (Lv (lockB B d od kvs) O false) (upd H d (.frz od (.dT kvs))) (kvs.map (·.2)) _ := rs.mono (fun _ h => lockB_Lv.mpr h) (keep_lock hd)
            exact reps_tr z
          · have hfd : H' d = some (.frz od (.dT kvs)) := s _ _ upd_same
            have hpd : p ≠ d := fun z => by subst z; rw [upd_same] at hp; cases hp
            refine ⟨hfd, q p _ ⟨fun b u z _ => ?_, fun t p2 hp2 => tabS_unlock hfd (s.tab (fun p3 hp3 => tabS_upd hd trivial (t p3 hp3)) p2 hp2), fun b h => dom_upd (s.dom b (dom_upd h))⟩ (by rw [upd_ne hpd] at hp; exact hp) ?_⟩
            · by_cases hb : b = d
              · subst hb; rw [hd] at z; cases z; exact upd_same
              · rw [upd_ne hb]; exact s b u (by rw [upd_ne hb]; exact z)
            · generalize hR : PV.D.dic true r.1 r.2 = R at o
              cases o with
              | dicT h1 h2 =>
                refine .dicT (by rw [upd_ne hpd]; exact h1) ?_
                have z := Reps.unlock (mg := X.mg) hfd h2
                exact z.mono (fun a h => ⟨lockB_Lv.mp h.1, h.2⟩) keepRefl
              | _ => cases hR
        · exact .inr ⟨.ref d, hσ, d, od, kvs, rfl, hd, dc_walk hw rl hz.1 hz.2 hr (walks_items hd (reps_tr rs)) fun p H' s hp o => q p H' s hp o⟩
      · cases hx
    · cases e
  · cases hy
end
end PV

namespace PV
variable [LT] [RT]
open PySem PySem.Spec PyProof.Rows L2
section
variable {prog : Program} {w : World} {A : Around} {E : Value → Shared → Prop} {s : Shared}
theorem kat_data {b fin : Bool} {Q : Bool → Shared → Prop} : ∀ (xs ys : List PyData) (ps qs : List Value) (as bs : List Addr) (i : Nat), ReadsAll s.heap ps xs as → ReadsAll s.heap qs ys bs → PySem.W.alikeAll xs ys = true →
    (i = 0 → (∀ x ∈ xs.head?, ∃ n, x = .int n) ∧ (∀ y ∈ ys.head?, ∃ n, y = .int n)) → A.units + min (PyData.depthAll xs) (PyData.depthAll ys) < cLine → fin = decide (ps.length < qs.length) →
    Q (PyProof.Rows.lexLt PyProof.Rows.itemOrd (PySem.W.keyToksAll xs) (PySem.W.keyToksAll ys)) s → PySem.W.KatLex prog w A b fin Q (ps.zip qs) i s
  | [], [], _, _, _, _, i, ra, rb, _, _, _, hf, h => by
    cases ra; cases rb
    rw [PyProof.Rows.lex_irrefl] at h
    rw [show fin = false by rw [hf]; rfl]
    exact PySem.W.kat_nil h
  | [], y :: ys, _, _, _, _, i, ra, rb, _, _, _, hf, h => by
    cases ra
    cases rb
    rw [PySem.W.toks_all_cons, PySem.W.keyToksAll, PyProof.Rows.lex_diff (O := PyProof.Rows.itemOrd) (by simp)] at h
    rw [show fin = true by rw [hf]; exact decide_eq_true (Nat.succ_pos _)]
    exact PySem.W.kat_nil h
  | x :: xs, [], _, _, _, _, i, ra, rb, _, _, _, hf, h => by
    cases ra
    cases rb
    rw [PySem.W.toks_all_cons, PySem.W.keyToksAll, PyProof.Rows.lex_diff (O := PyProof.Rows.itemOrd) (by simp)] at h
    rw [show fin = false by rw [hf]; exact decide_eq_false (Nat.not_lt_zero _)]
    exact PySem.W.kat_nil h
  | x :: xs, y :: ys, _, _, _, _, i, ra, rb, hal, h0, hu, hf, h => by
    cases ra with
    | cons r rs =>
      cases rb with
      | cons r' rs' =>
        have a1 := (PySem.W.alike_all_cons hal).1
        have a2 := (PySem.W.alike_all_cons hal).2
        have u1 : A.units + min x.depth y.depth < cLine := by simp only [PyData.depthAll] at hu; omega
        have u2 : A.units + min (PyData.depthAll xs) (PyData.depthAll ys) < cLine := by simp only [PyData.depthAll] at hu; omega
        refine PySem.W.kat_cons (PySem.W.eqAt_alike x y A s _ _ _ _ r r' a1 u1 prog w _ _ (PySem.W.kat_go (fun e => PySem.W.kat_yes ?_) fun e => PySem.W.kat_no ?_))
        · rw [PySem.W.dataLt_all_yes a1 e] at h
          exact kat_data xs ys _ _ _ _ (i + 1) rs rs' a2 (fun z => absurd z (Nat.succ_ne_zero i)) u2 (by rw [hf]; simp only [List.length_cons, Nat.add_lt_add_iff_right]) h
        · rw [PySem.W.dataLt_all_no a1 e] at h
          by_cases hi : i = 0
          · obtain ⟨n, rfl⟩ := (h0 hi).1 x rfl
            obtain ⟨m, rfl⟩ := (h0 hi).2 y rfl
            cases r
            cases r'
            rw [PySem.W.dataLt_int] at h
            exact TS.oneLt_ints _ h
          · rw [show (b && i == 0) = false by simp [hi]]
            exact PySem.W.kat_one _ _ (PySem.W.lt_data (Q := PySem.W.BoolBack Q) r r' a1 (PySem.W.ne_none_of a1 e) u1 h)
def KeyOk (h : Heap) (k : Value → PyData) (vs : List Value) : Prop := ∀ v ∈ vs, ∃ as n r, Reads h v (k v) as ∧ k v = .tuple (.int n :: r)
theorem KeyOk.keep {h h' : Heap} {k : Value → PyData} {vs : List Value} (x : KeyOk h k vs) (kp : ∀ v ∈ vs, ∀ as, Reads h v (k v) as → ∃ bs, Reads h' v (k v) bs) : KeyOk h' k vs := fun v hv =>
  let ⟨as, n, r, q, e⟩ := x v hv
  let ⟨bs, q'⟩ := kp v hv as q
  ⟨bs, n, r, q', e⟩
theorem data_cmp {vs : List Value} {k : Value → PyData} (x : KeyOk s.heap k vs) (al : ∀ v ∈ vs, ∀ u ∈ vs, PySem.W.alike (k v) (k u) = true) (hu : ∀ v ∈ vs, ∀ u ∈ vs, A.units + min (k v).depth (k u).depth < cLine) :
    SrtO.Cmp prog w A s (tuples' true) (fun p => p.1 ∈ vs) (SrtO.lt2 fun v u => PySem.W.dataLt (k v) (k u)) := by
  intro p q hp hq
  obtain ⟨as, n, r, h1, e1⟩ := x _ hp
  obtain ⟨bs, m, t, h2, e2⟩ := x _ hq
  have ha := al _ hp _ hq
  have hr := hu _ hp _ hq
  have fin : SrtO.lt2 (fun v u => PySem.W.dataLt (k v) (k u)) p q = PySem.W.dataLt (k p.1) (k q.1) := rfl
  rw [fin]
  rw [e1] at h1
  rw [e2] at h2
  rw [e1, e2] at ha hr
  rw [e1, e2, PySem.W.dataLt_tuple]
  generalize p.1 = v at h1
  generalize q.1 = u at h2
  cases h1 with
  | tuple ho hc hd hs =>
    cases h2 with
    | tuple ho' hc' hd' hs' =>
      refine PySem.W.kat_lt ho hd ho' hd' (kat_data _ _ _ _ _ _ 0 hs hs' (by simpa [PySem.W.alike] using ha) (fun _ => ⟨fun z hz => ⟨n, by simpa using hz.symm⟩, fun z hz => ⟨m, by simpa using hz.symm⟩⟩) ?_ (by rw [Array.length_toList, Array.length_toList]) ⟨rfl, rfl⟩)
      simp only [PyData.depth] at hr
      omega
theorem data_kind {vs : List Value} {k : Value → PyData} (h2 : 0 < vs.length) (x : KeyOk s.heap k vs) {Q : SortKind → Shared → Prop} (h : Q (tuples' true) s) : wpAny (model prog w) A (keyKind' vs.toArray) Q E s := by
  have fs : ∀ vs : List Value, KeyOk s.heap k vs → ∃ fs, PySem.W.KatTups s.heap vs fs ∧ fs.length = vs.length ∧ ∀ f ∈ fs, ∃ n t, f = Value.int n t := fun vs => by
    induction vs with
    | nil => intro _; exact ⟨[], PySem.W.KatTups.nil, rfl, fun f hf => by simp at hf⟩
    | cons v vs ih =>
      intro x
      obtain ⟨fs, g1, g2, g3⟩ := ih fun u hu => x u (List.mem_cons_of_mem _ hu)
      obtain ⟨as, n, r, h1, e1⟩ := x v List.mem_cons_self
      rw [e1] at h1
      cases h1 with
      | tuple ho hc hd hs =>
        rename_i a o xs m
        generalize hx : xs.toList = l at hs
        cases hs with
        | cons q qs =>
          cases q
          refine ⟨_ :: fs, PySem.W.KatTups.cons (f := .int n _) ho hc hd (by rw [← Array.getElem?_toList, hx]; rfl) g1, by simp [g2], fun f hf => ?_⟩
          rcases List.mem_cons.mp hf with rfl | hf
          · exact ⟨_, _, rfl⟩
          · exact g3 f hf
  obtain ⟨fs, g1, g2, g3⟩ := fs vs x
  exact PySem.W.kat_kind (T := Value.type "int") g1 (by omega) (fun f hf => by obtain ⟨n, t, rfl⟩ := g3 f hf; exact PySem.W.Looks.of_pure rfl) rfl h
end
theorem toks_swo : SrtO.Swo (fun x y : List (Int ⊕ List Nat) => PyProof.Rows.lexLt PyProof.Rows.itemOrd x y) where
  asym := fun x y h => by
    cases h2 : PyProof.Rows.lexLt PyProof.Rows.itemOrd y x with
    | false => rfl
    | true =>
      have := PyProof.Rows.lex_trans (O := PyProof.Rows.itemOrd) x y x h h2
      rw [PyProof.Rows.lex_irrefl] at this
      cases this
  tr := fun x y z h1 h2 => by
    cases h3 : PyProof.Rows.lexLt PyProof.Rows.itemOrd z x with
    | false => rfl
    | true =>
      rcases PyProof.Rows.lex_negTrans (O := PyProof.Rows.itemOrd) z y x h3 with h | h
      · rw [h] at h2; cases h2
      · rw [h] at h1; cases h1
theorem data_swo (k : Value → PyData) : SrtO.Swo (fun v u : Value => PySem.W.dataLt (k v) (k u)) where
  asym := fun x y h => toks_swo.asym _ _ h
  tr := fun x y z h1 h2 => toks_swo.tr _ _ _ h1 h2
theorem data_sortable {prog : Program} {w : World} {A : Around} {s : Shared} {a : Addr} {vs : List Value} {k : Value → PyData} (h2 : 0 < vs.length) (x : ∀ h' : Heap, (∀ b o, b ≠ a → s.heap.get? b = some o → h'.get? b = some o) → KeyOk h' k vs) (al : ∀ v ∈ vs, ∀ u ∈ vs, PySem.W.alike (k v) (k u) = true) (hu : ∀ v ∈ vs, ∀ u ∈ vs, A.units + min (k v).depth (k u).depth < cLine) :
    SrtO.SortableO prog w A s a vs fun v u => PySem.W.dataLt (k v) (k u) := fun h' keep =>
  ⟨tuples' true, fun _ _ hq => data_kind (s := { s with heap := h' }) h2 (x h' keep) hq, data_cmp (s := { s with heap := h' }) (x h' keep) al hu⟩

end PV

namespace PV
variable [LT] [RT]
open PySem PySem.Spec PyProof.Rows L2
def neB (ms : List (List Int)) : Bool := ms.all fun m => !m.isEmpty
def sortKR : D → Option D
  | .dic true ks _ => (tupsInts ks).bind fun ms => if ms.length ≤ szL ∧ neB ms = true then some (.lst (((ms.mergeSort lexLe).reverse).map fun m => .tup (m.map .int))) else none
  | _ => none
def intP (m : List Int) : PyData := .tuple (m.map PyData.int)
theorem toPs_ints : ∀ m : List Int, toPs (m.map D.int) = m.map PyData.int
  | [] => rfl
  | i :: m => by rw [List.map_cons, toPs, toPs_ints m]; rfl
theorem plains_ints : ∀ m : List Int, D.plains 0 (m.map D.int) = true
  | [] => by simp [D.plains]
  | i :: m => by simp only [List.map_cons, D.plains, plains_ints m, Bool.and_true]; simp [D.plain]
theorem alks_ints : ∀ m n : List Int, D.alks (m.map D.int) (n.map D.int) = true
  | [], [] => rfl
  | [], _ :: _ => rfl
  | _ :: _, [] => rfl
  | _ :: m, _ :: n => by simp only [List.map_cons, D.alks, alks_ints m n, D.alk, Bool.and_self]
theorem ltvs_ints : ∀ m n : List Int, D.ltvs (m.map D.int) (n.map D.int) = !lexLe n m
  | [], [] => rfl
  | [], _ :: _ => rfl
  | _ :: _, [] => rfl
  | a :: m, b :: n => by
    simp only [List.map_cons, D.ltvs, D.eqv, D.ltv, lexLe, ltvs_ints m n, beq_iff_eq]
    by_cases h : a = b
    · subst h; simp
    · have h' : ¬ b = a := fun e => h e.symm
      rw [if_neg h]
      by_cases h2 : a < b
      · have h3 : ¬ b < a := by omega
        simp [h2, h3, h']
      · have h3 : b < a := by omega
        simp [h2, h3]
theorem dataLt_ints (m n : List Int) : PySem.W.alike (intP m) (intP n) = true ∧ PySem.W.dataLt (intP m) (intP n) = !lexLe n m := by
  have z := ltvs_toP (plains_ints m) (plains_ints n) (alks_ints m n)
  rw [toPs_ints, toPs_ints, ltvs_ints] at z
  unfold intP
  rw [PySem.W.dataLt_tuple]
  exact ⟨by simp only [PySem.W.alike]; exact z.1, z.2⟩
theorem depth_ints (m : List Int) : (intP m).depth ≤ 1 := by
  have : ∀ m : List Int, PyData.depthAll (m.map PyData.int) = 0 := fun m => by
    induction m with
    | nil => simp [PyData.depthAll]
    | cons a m ih => simp [PyData.depthAll, PyData.depth, ih]
  simp only [intP, PyData.depth, this]
  omega
def vInt : V → Int
  | .int i => i
  | _ => 0
def intsH (H : Hp) : Value → List Int
  | .ref a => match H a with
    | some (.tup xs) => xs.map vInt
    | _ => []
  | _ => []
theorem intsH_of {H : Hp} {a : Addr} {m : List Int} (h : H a = some (.tup (m.map V.int))) : intsH H (.ref a) = m := by
  simp only [intsH, h, List.map_map]
  exact (List.map_congr_left fun _ _ => rfl).trans (List.map_id m)
theorem readsAll_ints {h : Heap} : ∀ {us : List Value} {m : List Int}, IntsAre us m → ∃ as, ReadsAll h us (m.map PyData.int) as
  | _, _, .nil => ⟨_, .nil⟩
  | _, _, .cons i t r => let ⟨as, q⟩ := readsAll_ints (h := h) r; ⟨_, .cons (.int i t) q⟩
section
variable {X : Cx}
theorem call_sortKR (hc : X.calm = true) (hu : X.A.units + 64 < cLine) : CallRK X (.builtin "sorted") [Str.ofString "reverse"] (fun xs ys H Q => ∃ (d : Addr) (kvs : List (List Key × V)) (ms : List (List Int)), xs = [V.ref d] ∧ ys = [.bl true] ∧ Rd H d (.dT kvs) ∧ kvs.map (·.1) = ms.map (fun m => m.map Sum.inl) ∧ ms.length ≤ sizeLine ∧ (∀ m ∈ ms, m ≠ []) ∧
    ∀ p (zs : List (Addr × List Int)), H p = none → zs.map (·.2) = (ms.mergeSort lexLe).reverse → (∀ z ∈ zs, H z.1 = some (.tup (z.2.map V.int))) → Q (.ref p) (upd H p (.lst (zs.map fun z => V.ref z.1)))) := by
  intro pins s σ H xs ys us ws Q I r rk ⟨d, kvs, ms, e, ek, hd, hms, hml, hne, q⟩
  subst e ek
  obtain ⟨w1, rfl, e1⟩ := vals1 rk
  obtain rfl : w1 = Value.bool true := e1
  obtain ⟨u, rfl, rx⟩ := r.one
  cases rx
  obtain ⟨z, hs, ks, pr, o, es, ep, ho, hx, hdt, he, hnd⟩ := (show ObjOk X.prog X.w H s.heap d (.dT kvs) from hd.ok I.hok)
  have l1 : es.size = ks.length := size_of_entries he
  have l2 : kvs.length = ks.length := Paired.length pr
  have l3 : kvs.length = ms.length := by have := congrArg List.length hms; simpa using this
  have hh : X.A.handled = none := I.ok.hd hc
  have hz : ∃ zs : List (Addr × List Int), zs.map (·.2) = ms ∧ zs.map (·.1) = ks.map (fun x => x.2.1) ∧ ∀ z ∈ zs, H z.1 = some (.tup (z.2.map V.int)) := by
    clear q hml hne l1 l2 l3 he hnd hd z
    induction pr generalizing ms with
    | nil =>
      cases ms with
      | nil => exact ⟨[], rfl, rfl, fun z hz => nomatch hz⟩
      | cons a b => cases hms
    | cons h t ih =>
      cases ms with
      | nil => cases hms
      | cons m ms =>
        rw [List.map_cons, List.map_cons] at hms
        injection hms with e1 e2
        obtain ⟨zs, g1, g2, g3⟩ := ih ms e2
        refine ⟨(_, m) :: zs, by rw [List.map_cons, g1], by rw [List.map_cons, List.map_cons, g2], fun z hz => ?_⟩
        rcases List.mem_cons.mp hz with rfl | hz
        · have := h.2.1
          rw [e1, List.map_map] at this
          exact this
        · exact g3 z hz
  obtain ⟨zs, z1, z2, z3⟩ := hz
  show wpAny _ _ (call (.builtin "sorted") [.ref d] [(Str.ofString "reverse", .bool true)]) _ _ s
  refine call_function_entry_kw kind_sorted plain_sorted entry_sorted (PyProof.Rows.args_sorted_rev _ _) ?_
  unfold Builtin.«sorted»
  refine wpAny_bind (m := checkCount "sorted" 1 1 _) (wpAny_pure ?_)
  refine wpAny_bind (gather (A := X.A.in1) (kdl_raw hs hx hdt) hh ho (by omega) fun h' tk acc hk hgt it => ?_)
  have ea : acc.toList = zs.map fun z => Value.ref z.1 := by
    have e3 : (zs.map fun z => Value.ref z.1) = ks.map fun x => Value.ref x.2.1 := by
      have := congrArg (List.map Value.ref) z2
      rw [List.map_map, List.map_map] at this
      exact this
    rw [e3]
    have hl : acc.toList.length = ks.length := by rw [Array.length_toList, it.1]; exact l1
    apply List.ext_getElem?
    intro j
    rw [List.getElem?_map]
    cases hj : acc.toList[j]? with
    | none =>
      have g := List.getElem?_eq_none_iff.mp hj
      rw [List.getElem?_eq_none (by omega), Option.map_none]
    | some v =>
      obtain ⟨en, hen, hv⟩ := it.2 j v (by rw [← Array.getElem?_toList]; exact hj)
      have qe := entry_at he j
      rw [hen] at qe
      cases hb : ks[j]? with
      | none => rw [hb] at qe; cases qe
      | some b =>
        rw [hb] at qe
        cases qe
        rw [hv]; rfl
  have hlen : acc.toList.length = zs.length := by rw [ea, List.length_map]
  have zl : zs.length = ms.length := by rw [← z1, List.length_map]
  have lsz : acc.toList.length ≤ sizeLine := by omega
  refine wpAny_bind (wpAny_newList ?_ lsz)
  have hoL : (h'.push (seqObj "list" acc.toList.toArray 0)).get? h'.objs.size = some (seqObj "list" acc.toList.toArray 0) := Heap.get?_push_size _ rfl
  have kb : ∀ b o, s.heap.get? b = some o → (h'.push (seqObj "list" acc.toList.toArray 0)).get? b = some o := fun b o e => Heap.get?_push_of_some _ (hk b o e)
  have hlt := Nat.le_of_lt hgt
  show wpAny _ _ _ _ _ { s with heap := h'.push (seqObj "list" acc.toList.toArray 0), toks := tk }
  have kk : ∀ z ∈ zs, intsH H (.ref z.1) = z.2 := fun z hz => intsH_of (z3 z hz)
  have keyok : ∀ g : Heap, (∀ b o, b ≠ h'.objs.size → (h'.push (seqObj "list" acc.toList.toArray 0)).get? b = some o → g.get? b = some o) → KeyOk g (fun v => intP (intsH H v)) acc.toList := fun g hg v hv => by
    rw [ea] at hv
    obtain ⟨z, hz, rfl⟩ := List.mem_map.mp hv
    obtain ⟨_, its, rv, ot, hot, hct, nt, hdt⟩ := (show ObjOk X.prog X.w H s.heap z.1 (.tup (z.2.map V.int)) from I.hok z.1 _ (z3 z hz))
    have hne2 : z.2 ≠ [] := hne _ (by rw [← z1]; exact List.mem_map.mpr ⟨z, hz, rfl⟩)
    obtain ⟨as, ra⟩ := readsAll_ints (h := g) rv.ints
    show ∃ as n r, Reads g (.ref z.1) (intP (intsH H (.ref z.1))) as ∧ intP (intsH H (.ref z.1)) = .tuple (.int n :: r)
    rw [kk z hz]
    obtain ⟨n, m', hm⟩ := List.exists_cons_of_ne_nil hne2
    refine ⟨_, n, m'.map PyData.int, .tuple (hg _ _ (Nat.ne_of_lt (Heap.lt_size (hk _ _ hot))) (kb _ _ hot)) hct hdt ra, by rw [hm]; rfl⟩
  have sb : 2 ≤ acc.toList.length → SrtO.SortableO X.prog X.w X.A.in1.in1 { s with heap := h'.push (seqObj "list" acc.toList.toArray 0), toks := tk } h'.objs.size acc.toList (fun v u => PySem.W.dataLt (intP (intsH H v)) (intP (intsH H u))) := fun h2 =>
    data_sortable (k := fun v => intP (intsH H v)) (by omega) keyok (fun v _ u _ => (dataLt_ints _ _).1) fun v _ u _ => by
      have d1 := depth_ints (intsH H v)
      have ua : X.A.in1.in1.units = X.A.units + 2 := rfl
      omega
  refine wpAny_bind (wpAny_holding (wpAny_call_entry_kw slot_list_sort ⟨_, hoL, rfl⟩ entry_list_sort ?_ (PyProof.Rows.args_list_sort_rev _ _)))
  refine SrtR.list_sort_ordR (b := true) (data_swo fun v => intP (intsH H v)) hoL lsz sb fun out o1 o2 => ⟨_, rfl, ?_⟩
  simp only [if_true] at o2 ⊢
  refine wpAny_pure ⟨_, rfl, ?_⟩
  have pm : out.Perm acc.toList := o2.perm.trans (List.reverse_perm _)
  obtain ⟨ws, w1, w2⟩ := perm_lift (fun z : Addr × List Int => Value.ref z.1) pm zs ea.symm
  have hws : ∀ z ∈ ws, z ∈ zs := fun z hz => w1.mem_iff.mp hz
  have hsort : ws.map (·.2) = ms.mergeSort lexLe := by
    refine (srt_eq ?_ ?_).symm
    · rw [← z1]; exact w1.map _
    · rw [← w2, SrtO.Srtd, List.pairwise_map] at o1
      rw [List.pairwise_map]
      refine List.Pairwise.imp_of_mem (fun {x y} hx hy h => ?_) o1
      have h2 := h
      rw [kk x (hws x hx), kk y (hws y hy), (dataLt_ints _ _).2] at h2
      simpa using h2
  obtain ⟨eF, heF⟩ := PyProof.Rows.sortedHeap_at (vs := acc.toList) (out := out.toArray.reverse) hoL
  have kS : ∀ b o, s.heap.get? b = some o → (sortedHeap (h'.push (seqObj "list" acc.toList.toArray 0)) h'.objs.size acc.toList out.toArray.reverse).get? b = some o := fun b o e =>
    (PyProof.Rows.sortedHeap_old (Nat.ne_of_lt (Heap.lt_size (hk b o e))) (Heap.lt_size (kb b o e))).trans (kb b o e)
  refine ⟨.ref h'.objs.size, upd H h'.objs.size (.lst (ws.reverse.map fun z => V.ref z.1)), I.laid (t' := tk) kS hlt ⟨?_, out.reverse, eF, ?_, by rw [show out.reverse.toArray = out.toArray.reverse by simp]; exact heF⟩, rfl, q _ ws.reverse (I.hok.fresh hlt) (by rw [List.map_reverse, hsort]) fun z hz => z3 z (hws z (List.mem_reverse.mp hz))⟩
  · rw [List.length_map, List.length_reverse, w1.length_eq, zl]; exact hml
  · rw [← w2, ← List.map_reverse]
    generalize ws.reverse = l
    induction l with
    | nil => exact .nil
    | cons a b ih => exact .cons rfl ih
theorem sn_sortKR {e : Expr} {de : Ex} {p pos kp kpos : Pos} {j : Nat} (hc : X.calm = true) (hu : X.A.units + 64 < cLine) (hm : X.mg "sorted" = none) (h : SE X true e de) (hg : Gl X "sorted" := by rfl)
    (hsa : starEach [e] X.env = (false, eval e X.env) :: starEach [] X.env := by rfl)
    (he : backTo pos (starEach [e] X.env) = (false, eval e X.env) :: backTo pos (starEach [] X.env) := by rfl) (hpl : (backTo pos (starEach [e] X.env)).any (·.1) = false := by rfl)
    (hall : (backToKw pos (keywordEach [⟨some "reverse", .Constant (.bool true) j kp, kpos⟩] X.env)).all (·.1.isSome) = true := by rfl) (hnone : (backToKw pos (keywordEach [⟨some "reverse", .Constant (.bool true) j kp, kpos⟩] X.env)).any (·.1.isNone) = false := by rfl)
    (hks : (backToKw pos (keywordEach [⟨some "reverse", .Constant (.bool true) j kp, kpos⟩] X.env)).filterMap (·.1) = [Str.ofString "reverse"] := by rfl) :
    SN X (.Call (.Name "sorted" p) [e] [⟨some "reverse", .Constant (.bool true) j kp, kpos⟩] pos) (op1 sortKR de) := (pe_callBK (call_sortKR hc hu) hg hm boot_sorted (sa_cons h sa_nil hsa) (pk_cons pe_bl pk_nil) (by decide) (by decide) he hpl hall hnone hks).weak fun σ H Q ⟨B, O, env, d, r, h1, q⟩ => by
  obtain ⟨x, hx, h2⟩ := bnd h1
  refine ⟨B, O, env, [x], r, by show (de env).bind _ = _; rw [hx]; rfl, fun vs H1 s1 r1 => ?_⟩
  obtain ⟨v, rfl, rx⟩ := reps_one r1
  cases x with
  | dic t ks vs =>
    cases t with
    | false => simp only [sortKR, reduceCtorEq] at h2
    | true =>
      simp only [sortKR] at h2
      obtain ⟨ms, hms, h2⟩ := bnd h2
      split at h2
      · rename_i hl
        cases h2
        obtain ⟨a, kvs, rfl, ha, hh, hks, t⟩ := rep_dicT rx
        have hk : kvs.map (·.1) = ms.map fun m => m.map Sum.inl := tups_rep (mg := X.mg) (by rw [List.map_map]; rw [hks] at hms; exact hms)
        have hne : ∀ m ∈ ms, m ≠ [] := fun m hm => by
          have := List.all_eq_true.mp hl.2 m hm
          intro z; subst z; simp at this
        refine ⟨a, kvs, ms, rfl, rfl, hh, hk, szL_ok hl.1, hne, fun p zs hp hz1 hz2 => ?_⟩
        refine q p _ (s1.trans (same_upd hp)) (Same.free s1 hp) (.lst upd_same ?_)
        rw [← hz1]
        exact (reps_tups zs hz2).same (same_upd hp)
      · cases h2
  | _ => simp only [sortKR, reduceCtorEq] at h2
end
end PV

namespace PV
variable [LT] [RT]
open PySem PySem.Spec PyProof.Rows L2
def seqK : D → Option (List D)
  | .lst xs => some xs
  | .tup xs => some xs
  | .ftup xs => some xs
  | _ => none
def iSq (a : Ex) : Ax := fun e => (a e).bind seqK
theorem _root_.L2.PI.or {X : Cx} {tg e : Expr} {t t' : TI} (h : PI X tg e t) (h' : PI X tg e t') : PI X tg e (fun σ H R => t σ H R ∨ t' σ H R) := ⟨fun pins s σ H R I q => q.elim (h.run pins s σ H R I) (h'.run pins s σ H R I)⟩
end PV

namespace PV
variable [LT] [RT]
open PySem PySem.Spec PyProof.Rows L2
def sortKL : D → Option D
  | .dic true ks _ => (tupsInts ks).bind fun ms => if ms.length ≤ szL ∧ neB ms = true then some (.lst ((ms.mergeSort lexLe).map fun m => .tup (m.map .int))) else none
  | _ => none
section
variable {X : Cx}
theorem call_sortKL (hc : X.calm = true) (hu : X.A.units + 64 < cLine) : CallR X (.builtin "sorted") (fun xs H Q => ∃ (d : Addr) (kvs : List (List Key × V)) (ms : List (List Int)), xs = [V.ref d] ∧ Rd H d (.dT kvs) ∧ kvs.map (·.1) = ms.map (fun m => m.map Sum.inl) ∧ ms.length ≤ sizeLine ∧ (∀ m ∈ ms, m ≠ []) ∧
    ∀ p (zs : List (Addr × List Int)), H p = none → zs.map (·.2) = ms.mergeSort lexLe → (∀ z ∈ zs, H z.1 = some (.tup (z.2.map V.int))) → Q (.ref p) (upd H p (.lst (zs.map fun z => V.ref z.1)))) := by
  intro pins s σ H xs us Q I r ⟨d, kvs, ms, e, hd, hms, hml, hne, q⟩
  subst e
  obtain ⟨u, rfl, rx⟩ := r.one
  cases rx
  obtain ⟨z, hs, ks, pr, o, es, ep, ho, hx, hdt, he, hnd⟩ := (show ObjOk X.prog X.w H s.heap d (.dT kvs) from hd.ok I.hok)
  have l1 : es.size = ks.length := size_of_entries he
  have l2 : kvs.length = ks.length := Paired.length pr
  have l3 : kvs.length = ms.length := by have := congrArg List.length hms; simpa using this
  have hh : X.A.handled = none := I.ok.hd hc
  have hz : ∃ zs : List (Addr × List Int), zs.map (·.2) = ms ∧ zs.map (·.1) = ks.map (fun x => x.2.1) ∧ ∀ z ∈ zs, H z.1 = some (.tup (z.2.map V.int)) := by
    clear q hml hne l1 l2 l3 he hnd hd z
    induction pr generalizing ms with
    | nil =>
      cases ms with
      | nil => exact ⟨[], rfl, rfl, fun z hz => nomatch hz⟩
      | cons a b => cases hms
    | cons h t ih =>
      cases ms with
      | nil => cases hms
      | cons m ms =>
        rw [List.map_cons, List.map_cons] at hms
        injection hms with e1 e2
        obtain ⟨zs, g1, g2, g3⟩ := ih ms e2
        refine ⟨(_, m) :: zs, by rw [List.map_cons, g1], by rw [List.map_cons, List.map_cons, g2], fun z hz => ?_⟩
        rcases List.mem_cons.mp hz with rfl | hz
        · have := h.2.1
          rw [e1, List.map_map] at this
          exact this
        · exact g3 z hz
  obtain ⟨zs, z1, z2, z3⟩ := hz
  refine Calls.call_function_entry kind_sorted plain_sorted entry_sorted (args_sorted1 _) ?_
  unfold Builtin.«sorted»
  refine wpAny_bind (m := checkCount "sorted" 1 1 _) (wpAny_pure ?_)
  refine wpAny_bind (gather (A := X.A.in1) (kdl_raw hs hx hdt) hh ho (by omega) fun h' tk acc hk hgt it => ?_)
  have ea : acc.toList = zs.map fun z => Value.ref z.1 := by
    have e3 : (zs.map fun z => Value.ref z.1) = ks.map fun x => Value.ref x.2.1 := by
      have := congrArg (List.map Value.ref) z2
      rw [List.map_map, List.map_map] at this
      exact this
    rw [e3]
    have hl : acc.toList.length = ks.length := by rw [Array.length_toList, it.1]; exact l1
    apply List.ext_getElem?
    intro j
    rw [List.getElem?_map]
    cases hj : acc.toList[j]? with
    | none =>
      have g := List.getElem?_eq_none_iff.mp hj
      rw [List.getElem?_eq_none (by omega), Option.map_none]
    | some v =>
      obtain ⟨en, hen, hv⟩ := it.2 j v (by rw [← Array.getElem?_toList]; exact hj)
      have qe := entry_at he j
      rw [hen] at qe
      cases hb : ks[j]? with
      | none => rw [hb] at qe; cases qe
      | some b =>
        rw [hb] at qe
        cases qe
        rw [hv]; rfl
  have hlen : acc.toList.length = zs.length := by rw [ea, List.length_map]
  have zl : zs.length = ms.length := by rw [← z1, List.length_map]
  have lsz : acc.toList.length ≤ sizeLine := by omega
  refine wpAny_bind (wpAny_newList ?_ lsz)
  have hoL : (h'.push (seqObj "list" acc.toList.toArray 0)).get? h'.objs.size = some (seqObj "list" acc.toList.toArray 0) := Heap.get?_push_size _ rfl
  have kb : ∀ b o, s.heap.get? b = some o → (h'.push (seqObj "list" acc.toList.toArray 0)).get? b = some o := fun b o e => Heap.get?_push_of_some _ (hk b o e)
  have hlt := Nat.le_of_lt hgt
  show wpAny _ _ _ _ _ { s with heap := h'.push (seqObj "list" acc.toList.toArray 0), toks := tk }
  have kk : ∀ z ∈ zs, intsH H (.ref z.1) = z.2 := fun z hz => intsH_of (z3 z hz)
  have keyok : ∀ g : Heap, (∀ b o, b ≠ h'.objs.size → (h'.push (seqObj "list" acc.toList.toArray 0)).get? b = some o → g.get? b = some o) → KeyOk g (fun v => intP (intsH H v)) acc.toList := fun g hg v hv => by
    rw [ea] at hv
    obtain ⟨z, hz, rfl⟩ := List.mem_map.mp hv
    obtain ⟨_, its, rv, ot, hot, hct, nt, hdt⟩ := (show ObjOk X.prog X.w H s.heap z.1 (.tup (z.2.map V.int)) from I.hok z.1 _ (z3 z hz))
    have hne2 : z.2 ≠ [] := hne _ (by rw [← z1]; exact List.mem_map.mpr ⟨z, hz, rfl⟩)
    obtain ⟨as, ra⟩ := readsAll_ints (h := g) rv.ints
    show ∃ as n r, Reads g (.ref z.1) (intP (intsH H (.ref z.1))) as ∧ intP (intsH H (.ref z.1)) = .tuple (.int n :: r)
    rw [kk z hz]
    obtain ⟨n, m', hm⟩ := List.exists_cons_of_ne_nil hne2
    refine ⟨_, n, m'.map PyData.int, .tuple (hg _ _ (Nat.ne_of_lt (Heap.lt_size (hk _ _ hot))) (kb _ _ hot)) hct hdt ra, by rw [hm]; rfl⟩
  have sb : 2 ≤ acc.toList.length → SrtO.SortableO X.prog X.w X.A.in1.in1 { s with heap := h'.push (seqObj "list" acc.toList.toArray 0), toks := tk } h'.objs.size acc.toList (fun v u => PySem.W.dataLt (intP (intsH H v)) (intP (intsH H u))) := fun h2 =>
    data_sortable (k := fun v => intP (intsH H v)) (by omega) keyok (fun v _ u _ => (dataLt_ints _ _).1) fun v _ u _ => by
      have d1 := depth_ints (intsH H v)
      have ua : X.A.in1.in1.units = X.A.units + 2 := rfl
      omega
  refine wpAny_bind (wpAny_holding (wpAny_call_entry slot_list_sort ⟨_, hoL, rfl⟩ entry_list_sort (SrtO.list_sort_ord (data_swo fun v => intP (intsH H v)) hoL lsz sb fun out o1 o2 => ⟨_, rfl, ?_⟩) (args_list_sort _)))
  refine wpAny_pure ⟨_, rfl, ?_⟩
  have pm : out.Perm acc.toList := o2.perm
  obtain ⟨ws, w1, w2⟩ := perm_lift (fun z : Addr × List Int => Value.ref z.1) pm zs ea.symm
  have hws : ∀ z ∈ ws, z ∈ zs := fun z hz => w1.mem_iff.mp hz
  have hsort : ws.map (·.2) = ms.mergeSort lexLe := by
    refine (srt_eq ?_ ?_).symm
    · rw [← z1]; exact w1.map _
    · rw [← w2, SrtO.Srtd, List.pairwise_map] at o1
      rw [List.pairwise_map]
      refine List.Pairwise.imp_of_mem (fun {x y} hx hy h => ?_) o1
      have h2 := h
      rw [kk x (hws x hx), kk y (hws y hy), (dataLt_ints _ _).2] at h2
      simpa using h2
  obtain ⟨eF, heF⟩ := PyProof.Rows.sortedHeap_at (vs := acc.toList) (out := out.toArray) hoL
  have kS : ∀ b o, s.heap.get? b = some o → (sortedHeap (h'.push (seqObj "list" acc.toList.toArray 0)) h'.objs.size acc.toList out.toArray).get? b = some o := fun b o e =>
    (PyProof.Rows.sortedHeap_old (Nat.ne_of_lt (Heap.lt_size (hk b o e))) (Heap.lt_size (kb b o e))).trans (kb b o e)
  refine ⟨.ref h'.objs.size, upd H h'.objs.size (.lst (ws.map fun z => V.ref z.1)), I.laid (t' := tk) kS hlt ⟨?_, out, eF, ?_, heF⟩, rfl, q _ ws (I.hok.fresh hlt) (hsort) fun z hz => z3 z (hws z (hz))⟩
  · rw [List.length_map, w1.length_eq, zl]; exact hml
  · rw [← w2]
    clear w2 w1 hws hsort
    induction ws with
    | nil => exact .nil
    | cons a b ih => exact .cons rfl ih
theorem sn_sortKL {e : Expr} {de : Ex} {p pos : Pos} (hc : X.calm = true) (hu : X.A.units + 64 < cLine) (hm : X.mg "sorted" = none) (h : SE X true e de) (hg : Gl X "sorted" := by rfl) (he : starEach [e] X.env = (false, eval e X.env) :: starEach [] X.env := by rfl) (hpl : (backTo pos (starEach [] X.env)).any (·.1) = false := by rfl) : SN X (.Call (.Name "sorted" p) [e] [] pos) (op1 sortKL de) := (pe_callB (call_sortKL hc hu) hg hm boot_sorted (sa_cons h sa_nil he) (by decide) (by decide) he hpl).weak fun σ H Q ⟨B, O, env, d, r, h1, q⟩ => by
  obtain ⟨x, hx, h2⟩ := bnd h1
  refine ⟨B, O, env, [x], r, by show (de env).bind _ = _; rw [hx]; rfl, fun vs H1 s1 r1 => ?_⟩
  obtain ⟨v, rfl, rx⟩ := reps_one r1
  cases x with
  | dic t ks vs =>
    cases t with
    | false => simp only [sortKL, reduceCtorEq] at h2
    | true =>
      simp only [sortKL] at h2
      obtain ⟨ms, hms, h2⟩ := bnd h2
      split at h2
      · rename_i hl
        cases h2
        obtain ⟨a, kvs, rfl, ha, hh, hks, t⟩ := rep_dicT rx
        have hk : kvs.map (·.1) = ms.map fun m => m.map Sum.inl := tups_rep (mg := X.mg) (by rw [List.map_map]; rw [hks] at hms; exact hms)
        have hne : ∀ m ∈ ms, m ≠ [] := fun m hm => by
          have := List.all_eq_true.mp hl.2 m hm
          intro z; subst z; simp at this
        refine ⟨a, kvs, ms, rfl, hh, hk, szL_ok hl.1, hne, fun p zs hp hz1 hz2 => ?_⟩
        refine q p _ (s1.trans (same_upd hp)) (Same.free s1 hp) (.lst upd_same ?_)
        rw [← hz1]
        exact (reps_tups zs hz2).same (same_upd hp)
      · cases h2
  | _ => simp only [sortKL, reduceCtorEq] at h2
end
end PV

namespace PV
variable [LT] [RT]
open PySem PySem.Spec PyProof.Rows L2
def ftupD : D → Option D
  | .lst xs => some (.ftup xs)
  | _ => none
def ftupE (a : Ax) : Ex := fun e => (a e).bind fun xs => if xs.length ≤ szL then some (.ftup xs) else none
def dcRows : List D → List D → List D → Option (List D × List D)
  | [], ks, vs => some (ks, vs)
  | .tup [k, v] :: rs, ks, vs => if keyD true k = true then dcRows rs (dput ks vs k v).1 (dput ks vs k v).2 else none
  | _ :: _, _, _ => none
def dictT : D → Option D
  | .ftup xs => if xs.length ≤ szL then (dcRows xs [] []).map fun r => .dic true r.1 r.2 else none
  | _ => none
section
variable {X : Cx} {τ : Bool}
def kFt (K : PySem.W.Frag) (x : V) (H : Hp) (Q : VK) : Prop := ∃ p xs, x = .ref p ∧ SqL K H p xs ∧ ∀ q o, H q = none → o.dict = none → Q (.ref q) (upd H q (.frz o (.tup xs)))
theorem rl_ft (pins : List (Addr × Obj)) (s : Shared) (σ : L2.St) (H : Hp) (x : V) (v : Value) (Q : VK) (I : Inv X pins σ H s) (r : RelV x v) (h : kFt X.K x H Q) :
    wpAny (model X.prog X.w) X.A (call (.type "tuple") [v]) (EP X pins σ Q) X.xe s := by
  obtain ⟨p, xs, rfl, hs, q⟩ := h
  obtain rfl : v = .ref p := r
  obtain ⟨its, rv, pl, hz⟩ := I.list hs
  refine call_tuple_list pl.isList (fun h' hk => ?_) (by rw [List.size_toArray, ← rv.length]; exact hz)
  have I1 : Inv X pins σ H { s with heap := h' } := I.kept (t' := s.toks) hk
  have I2 : Inv X pins σ (upd H h'.objs.size (.frz { cls := .type "tuple", data := .seq its.toArray } (.tup xs))) { s with heap := h'.push { cls := .type "tuple", data := .seq its.toArray } } :=
    I1.laid (t' := s.toks) (fun b o e => Heap.get?_push_of_some _ e) (Nat.le_refl _) ⟨Heap.get?_push_size _ rfl, hz, its, rv, IsTup.new _ _⟩
  exact ⟨.ref h'.objs.size, _, I2, rfl, q _ _ (I1.hok.fresh (Nat.le_refl _)) rfl⟩
theorem pe_ftupleOf {a : Expr} {ta : TE} {p pos : Pos} (hg : Gl X "tuple") (hm : X.mg "tuple" = none) (ha : PE X a ta) (na : starEach [a] X.env = (false, eval a X.env) :: starEach [] X.env := by rfl) :
    PE X (.Call (.Name "tuple" p) [a] [] pos) (tThen ta (kFt X.K)) := by
  refine ⟨fun pins s σ H Q I h => ?_⟩
  exact Call_ (ld_blt I hg hm boot_tuple (PyProof.Rows.callWith_type1 (one_arg ha I h (fun v s2 x H2 I2 r q => rl_ft pins s2 σ H2 x v Q I2 r q) na) na))
theorem se_ftuple {e : Expr} {de : Ex} {p pos : Pos} (hm : X.mg "tuple" = none) (h : SE X τ e de) (hg : Gl X "tuple" := by rfl) (na : starEach [e] X.env = (false, eval e X.env) :: starEach [] X.env := by rfl) : SE X τ (.Call (.Name "tuple" p) [e] [] pos) (op1 ftupD de) := (pe_ftupleOf hg hm h na).weak fun σ H Q ⟨B, O, env, d, r, h1, q⟩ => by
  obtain ⟨x, hx, h2⟩ := bnd h1
  refine ⟨B, O, env, x, r, hx, fun v H1 s1 r1 => ?_⟩
  cases r1 <;> simp only [ftupD, reduceCtorEq] at h2
  rename_i a xs ds ha h t
  cases h2
  exact ⟨a, xs, rfl, .inl (.inl h), fun p o hp hd => q _ _ (s1.trans (same_upd hp)) (.ftup upd_same hd (t.same (same_upd hp)))⟩
abbrev Rw := Addr × Addr × List Key × V
def RowsOk (H : Hp) (ts : List Rw) : Prop := ∀ t ∈ ts, H t.1 = some (.tup [.ref t.2.1, t.2.2.2]) ∧ H t.2.1 = some (.tup (t.2.2.1.map kV))
def putAll (kvs : List (List Key × V)) (ts : List Rw) : List (List Key × V) := ts.foldl (fun kvs t => putK kvs t.2.2.1 t.2.2.2) kvs
theorem rows_vals {pins : List (Addr × Obj)} {σ : L2.St} {H : Hp} {s : Shared} (I : Inv X pins σ H s) : ∀ {ts : List Rw}, RowsOk H ts → ∃ prs : List (List Key × Addr × Value), Paired (fun (t : Rw) (q : List Key × Addr × Value) => t.2.2.1 = q.1 ∧ t.2.1 = q.2.1 ∧ RelV t.2.2.2 q.2.2 ∧ IsTup s.heap t.1 #[.ref t.2.1, q.2.2]) ts prs
  | [], _ => ⟨[], .nil⟩
  | t :: ts, h => by
    obtain ⟨prs, r⟩ := rows_vals I (ts := ts) fun z hz => h z (List.mem_cons_of_mem _ hz)
    obtain ⟨h1, h2⟩ := h t List.mem_cons_self
    obtain ⟨its, rv, ht, _⟩ := I.tuple (.inl (.inl h1))
    obtain ⟨u, y, ei, ru, ry⟩ := vals2 rv
    subst ei
    cases (show u = Value.ref t.2.1 from ru)
    exact ⟨(t.2.2.1, t.2.1, y) :: prs, .cons ⟨rfl, rfl, ry, ht⟩ r⟩
theorem Paired.get {α β : Type} {F : α → β → Prop} : ∀ {l : List α} {m : List β} {i : Nat} {b : β}, Paired F l m → m[i]? = some b → ∃ a, l[i]? = some a ∧ F a b
  | _, _, _, _, .nil, e => by simp at e
  | _, _, 0, _, .cons h _, e => by simp at e; subst e; exact ⟨_, rfl, h⟩
  | _, _, i + 1, _, .cons _ t, e => by
    obtain ⟨a, h1, h2⟩ := Paired.get (i := i) t (by simpa using e)
    exact ⟨a, by simpa using h1, h2⟩
theorem kt_all {H : Hp} {F : Rw → List Key × Addr × Value → Prop} (hF : ∀ t q, F t q → t.2.2.1 = q.1 ∧ t.2.1 = q.2.1 ∧ RelV t.2.2.2 q.2.2) : ∀ {ts : List Rw} {prs : List (List Key × Addr × Value)} {kvs : List (List Key × V)} {xs : List (List Key × Addr × Value)}, Paired F ts prs → RowsOk H ts → KT H kvs xs → KT H (putAll kvs ts) (storedAllH xs prs)
  | _, _, _, _, .nil, _, r => r
  | _, _, kvs, xs, .cons (a := t) (b := q) h p, hr, r => by
    obtain ⟨e1, e2, e3⟩ := hF t q h
    have h2 := (hr t List.mem_cons_self).2
    refine kt_all hF (kvs := putK kvs t.2.2.1 t.2.2.2) (xs := storedH xs q.1 q.2.1 q.2.2) p (fun z hz => hr z (List.mem_cons_of_mem _ hz)) ?_
    rw [← e1, ← e2]
    exact r.put _ h2 e3
theorem call_dictT (hc : X.calm = true) (hu : X.A.units + 3 < cLine) : CallR X (.type "dict") (fun xs H Q => ∃ (a : Addr) (o : Obj) (ts : List Rw), xs = [.ref a] ∧ H a = some (.frz o (.tup (ts.map fun t => V.ref t.1))) ∧ o.dict = none ∧ RowsOk H ts ∧
    ∀ p, H p = none → Q (.ref p) (upd H p (.dT (putAll [] ts)))) := by
  intro pins s σ H xs us Q I r ⟨a, o, ts, e, ha, hd, hts, q⟩
  subst e
  obtain ⟨u, eu, rx⟩ := vals1 r
  subst eu
  cases rx
  obtain ⟨ho, hz, its, rv, ob, hob, hcl, n, hdat⟩ := (show ObjOk X.prog X.w H s.heap a (.frz o (.tup (ts.map fun t => V.ref t.1))) from I.hok a _ ha)
  rw [ho] at hob
  cases hob
  obtain ⟨prs, hpr⟩ := rows_vals I hts
  have hlen : ts.length = prs.length := Paired.length hpr
  have hmap : ts.map (fun t => V.ref t.1) = (ts.map (·.1)).map V.ref := by rw [List.map_map]; rfl
  rw [hmap] at rv
  have ei := refs_at rv
  subst ei
  rw [List.length_map] at hz
  have hzs : prs.length ≤ sizeLine := by rw [← hlen]; exact hz
  have P := PairArg.tuple (prog := X.prog) (w := X.w) a (((ts.map (·.1)).map Value.ref).toArray) (fun j => (ts[j]?.map (·.1)).getD 0) (prs.map fun q => (Value.ref q.2.1, q.2.2))
  have hkey : ∀ h' : Heap, (∀ b ob vs n, s.heap.get? b = some ob → ob.data = .seq vs n → h'.get? b = some ob) → ∀ x ∈ prs, (tupleKind (mixKind X.prog X.w)).is h' x.1 x.2.1 := fun h' hk x hx => by
    obtain ⟨i, hi⟩ := List.mem_iff_getElem?.mp hx
    obtain ⟨t, h1, h2, h3, _, _⟩ := Paired.get hpr hi
    have := key_of (P := X.prog) (w := X.w) I.hok (hts t (List.mem_of_getElem? h1)).2
    rw [h2, h3] at this
    exact tupleKind_stays.stays hk this
  refine call_dict_pairsH (knd := tupleKind (mixKind X.prog X.w)) (ps := prs) P (I.ok.hd hc) (by show X.A.units + 1 + 1 < cLine; omega) ⟨⟨o, n, ho, hcl, hd, hdat⟩, ?_, ?_⟩ ⟨by rw [List.length_map], ?_⟩ ?_ (by rw [List.length_map]; exact hzs) fun h' tk hd' hk => ?_
  · simp [hlen]
  · intro j k v hj
    rw [List.getElem?_map] at hj
    obtain ⟨q0, hq, e⟩ := Option.map_eq_some_iff.mp hj
    cases e
    obtain ⟨t, h1, _, h3, _, h5⟩ := Paired.get hpr hq
    refine ⟨by simp [h1], .inl ?_⟩
    show s.heap.IsTuple ((ts[j]?.map (·.1)).getD 0) #[Value.ref q0.2.1, q0.2.2]
    rw [h1, ← h3]
    exact h5
  · intro i key v hi
    have hi : (prs.map fun q => (Value.ref q.2.1, q.2.2))[i]? = some (key, v) := hi
    rw [List.getElem?_map] at hi
    obtain ⟨q0, hq, e⟩ := Option.map_eq_some_iff.mp hi
    cases e
    exact ⟨q0.1, q0.2.1, hq, rfl⟩
  · intro h' hk x hx
    refine hkey h' (fun b ob vs n e _ => hk b ob (Nat.ne_of_lt (Heap.lt_size e)) (fun z => nomatch z) e) x hx
  · have hm : (s.heap.objs.size == sysModules) = false := beq_eq_false_iff_ne.mpr (Nat.ne_of_gt I.big)
    obtain ⟨od, es, ep, g1, g2, g3, g4, _, g5⟩ := hd'
    have hfree : H s.heap.objs.size = none := I.hok.fresh (Nat.le_refl _)
    have kt : KT (upd H s.heap.objs.size (.dT (putAll [] ts))) (putAll [] ts) (storedAllH [] prs) := (kt_all (H := H) (fun t q z => ⟨z.1, z.2.1, z.2.2.1⟩) hpr hts .nil).keeps fun b ys e => by rw [upd_ne (ne_of_none e hfree)]; exact e
    have hl2 : (putAll [] ts).length ≤ sizeLine := by
      rw [Paired.length kt]
      refine Nat.le_trans (storedAllH_length prs []) ?_
      rw [List.length_nil, Nat.zero_add]; exact hzs
    exact ⟨.ref s.heap.objs.size, _, I.laid (t' := tk) (o := .dT (putAll [] ts)) (fun b ob e => hk b ob (fun z => nomatch z) e) (Nat.le_refl _) ⟨hl2, hm, _, kt, od, es, ep, g1, g2, g3, g4, g5⟩, rfl, q _ hfree⟩
theorem rows_of {mg : Str → Option Value} {A : Addr → Prop} {H : Hp} : ∀ {ds : List D} {xs : List V} {kvs : List (List Key × V)} {vs : List D} {r : List D × List D}, Reps mg A H xs ds → Reps mg A H (kvs.map (·.2)) vs → dcRows ds (kvs.map fun p => .tup (p.1.map kD)) vs = some r →
    ∃ ts : List Rw, xs = ts.map (fun t => V.ref t.1) ∧ RowsOk H ts ∧ r.1 = (putAll kvs ts).map (fun p => D.tup (p.1.map kD)) ∧ Reps mg A H ((putAll kvs ts).map (·.2)) r.2
  | [], _, kvs, vs, r, .nil, rv, e => by
    simp only [dcRows] at e
    cases e
    exact ⟨[], rfl, (fun _ h => nomatch h), rfl, rv⟩
  | d :: ds, _, kvs, vs, r, .cons h t, rv, e => by
    unfold dcRows at e
    split at e
    · rename_i heq; cases heq
    · rename_i k v rs ks vs' heq
      cases heq
      split at e
      · rename_i hk
        obtain ⟨a, xs', rfl, hH, rs'⟩ := h.tup_inv
        cases rs' with
        | cons rk rs' =>
          cases rs' with
          | cons rw rs' =>
            cases rs'
            obtain ⟨ks, b, rfl, hb, rfl⟩ := keyT_rep rk hk
            obtain ⟨z1, z2⟩ := dput_put (f := fun ks : List Key => D.tup (ks.map kD)) eqv_kT (k := ks) rw rv
            rw [← z1] at e
            obtain ⟨ts, e1, e2, e3, e4⟩ := rows_of t z2 e
            refine ⟨(a, b, ks, _) :: ts, by rw [e1]; rfl, fun y hy => ?_, e3, e4⟩
            rcases List.mem_cons.mp hy with rfl | hy
            · exact ⟨hH, hb⟩
            · exact e2 y hy
      · cases e
    · cases e
theorem sn_dictT {e : Expr} {de : Ex} {p pos : Pos} (hc : X.calm = true) (hu : X.A.units + 64 < cLine) (hm : X.mg "dict" = none) (h : SE X false e de) (hg : Gl X "dict" := by rfl) (he : starEach [e] X.env = (false, eval e X.env) :: starEach [] X.env := by rfl) (hpl : (backTo pos (starEach [] X.env)).any (·.1) = false := by rfl) : SN X (.Call (.Name "dict" p) [e] [] pos) (op1 dictT de) := (pe_callTy (call_dictT hc (by omega)) hg hm boot_dict (sa_cons h sa_nil he) (by decide) (by decide) he hpl).weak fun σ H Q ⟨B, O, env, d, r, h1, q⟩ => by
  obtain ⟨x, hx, h2⟩ := bnd h1
  refine ⟨B, O, env, [x], r, by show (de env).bind _ = _; rw [hx]; rfl, fun vs H1 s1 r1 => ?_⟩
  obtain ⟨v, rfl, rx⟩ := reps_one r1
  cases x <;> simp only [dictT, reduceCtorEq] at h2
  split at h2
  · rename_i hz
    obtain ⟨rr, hr, h3⟩ := Option.map_eq_some_iff.mp h2
    subst h3
    obtain ⟨a, o, xs, rfl, hH, hd, t⟩ := rx.ftup_inv
    obtain ⟨ts, rfl, e2, e3, e4⟩ := rows_of (kvs := []) (vs := []) t .nil hr
    refine ⟨a, o, ts, rfl, hH, hd, e2, fun p hp => q p _ (s1.trans (same_upd hp)) (Same.free s1 hp) ?_⟩
    rw [e3]
    exact .dicT upd_same ((Reps.ne hp e4).same (same_upd hp))
  · cases h2
end
end PV

namespace PV
variable [LT] [RT]
open PySem PySem.Spec PyProof.Rows L2
def zipM : List D → Option (List D)
  | [.tup xs, .lst ys] => some ((xs.zip ys).map fun p => .tup [p.1, p.2])
  | _ => none
def iZm (a : Ax) : Ax := fun e => (a e).bind zipM
section
variable {prog : Program} {w : World} {A : Around} {E : Value → Shared → Prop} {s : Shared}
theorem draws_endL (hh : A.handled = none) {it t : Addr} {items : Array Value} {i : Nat} (hi : items.size ≤ i) : Draws prog w A it [it, t] i (fun _ _ => False) (fun j h => j = i ∧ h.IsListIter it t i ∧ h.IsList t items) where
  live := fun _ _ st => let ⟨o, ho, _⟩ := st.2.1; ⟨o, ho⟩
  frame := fun _ _ _ st hk => ⟨st.1, st.2.1.at fun o e => hk it (by simp) o e, st.2.2.at fun o e => hk t (by simp) o e⟩
  item := fun j s Q E hj st hQ => absurd st.1 (by omega)
  done := fun s Q E st hE => wpAny_nextOf_list_end hh st.2.1 st.2.2 (by simp [hi]) hE
end
structure ZmSep (z TI TO i1 i2 a b : Addr) : Prop where
  all : TI ≠ z ∧ TO ≠ z ∧ TI ≠ TO ∧ TI ≠ i1 ∧ TI ≠ i2 ∧ i1 ≠ z ∧ i2 ≠ z ∧ i1 ≠ TO ∧ i2 ≠ TO ∧ i1 ≠ i2 ∧ a ≠ z ∧ a ≠ TO ∧ a ≠ i1 ∧ a ≠ i2 ∧ b ≠ z ∧ b ≠ TO ∧ b ≠ i1 ∧ b ≠ i2
theorem zm_nat (n a b : Nat) (la : a < n) (lb : b < n) : n + 2 ≠ n + 4 ∧ n + 3 ≠ n + 4 ∧ n + 2 ≠ n + 3 ∧ n + 2 ≠ n ∧ n + 2 ≠ n + 1 ∧ n ≠ n + 4 ∧ n + 1 ≠ n + 4 ∧ n ≠ n + 3 ∧ n + 1 ≠ n + 3 ∧ n ≠ n + 1 ∧ a ≠ n + 4 ∧ a ≠ n + 3 ∧ a ≠ n ∧ a ≠ n + 1 ∧ b ≠ n + 4 ∧ b ≠ n + 3 ∧ b ≠ n ∧ b ≠ n + 1 := by omega
theorem zm_sep (n a b : Nat) (la : a < n) (lb : b < n) : ZmSep (n + 4) (n + 2) (n + 3) n (n + 1) a b := ⟨zm_nat n a b la lb⟩
theorem ZmSep.sep {z TI TO i1 i2 a b : Addr} (S : ZmSep z TI TO i1 i2 a b) : ZipSep2 z TI TO i1 i2 [i1, a] [i2, b] := by
  obtain ⟨h1, h2, h3, h4, h5, h6, h7, h8, h9, h10, h11, h12, h13, h14, h15, h16, h17, h18⟩ := S.all
  refine ⟨h1, h2, h3, h4, by simp, by simp [Ne.symm h6, Ne.symm h11], by simp [Ne.symm h8, Ne.symm h12], h5, by simp, by simp [Ne.symm h7, Ne.symm h15], by simp [Ne.symm h9, Ne.symm h16], by simp [h10, Ne.symm h17], by simp [Ne.symm h10, Ne.symm h14]⟩
end PV

namespace PV
variable [LT] [RT]
open PySem PySem.Spec PyProof.Rows L2
def addI : D → D → Option D
  | .int a, .int b => some (.int (a + b))
  | _, _ => none
def subI : D → D → Option D
  | .int a, .int b => some (.int (a - b))
  | _, _ => none
end PV

namespace PV
variable [LT] [RT]
open PySem PySem.Spec PyProof.Rows L2
def isLst : D → Option D
  | .lst _ => some (.bl true)
  | _ => none
end PV

namespace PV
variable [LT] [RT]
open PySem PySem.Spec PyProof.Rows L2
def isC (c : Str) : D → Option D
  | .ins c' _ _ => if c' = c then some (.bl true) else none
  | _ => none
def strI : D → Option D
  | .int i => if i.natAbs.log2 < 64 then some (.str (toString i)) else none
  | _ => none
def isiB (x : Str) (K : PySem.W.Frag) : Bool := He.eqO (PySem.W.findIn K (.ref (He.ga K x)) "__class__") (some (some (.builtin "object.__class__"))) && (He.eqO (PySem.W.specialIn K (.builtin "object.__class__") "__get__") (some (some (.builtin "getset_descriptor.__get__"))) && (decide (PySem.W.takesIn K (.builtin "object.__class__") = some true) && decide (PySem.W.mroIn K (He.ga K x) (.type "object") = some true)))
section
variable {X : Cx} {τ : Bool}
theorem se_isC {e : Expr} {de : Ex} {c : Str} {p p2 pos : Pos} (hm : X.mg "isinstance" = none) (hgl : X.mg c = some (.ref (He.ga X.K c))) (hcl : Cls X.K (He.ga X.K c)) (hi : isiB c X.K = true) (h : SE X true e de) (hg : Gl X "isinstance" := by rfl) (hg2 : Gl X c := by rfl) (n1 : starEach [e, .Name c p2] X.env = (false, eval e X.env) :: starEach [.Name c p2] X.env := by rfl) (n2 : starEach [.Name c p2] X.env = (false, eval (.Name c p2) X.env) :: starEach [] X.env := by rfl) (hpl : (backTo pos (starEach [.Name c p2] X.env)).any (·.1) = false := by rfl) (hd : (c == ("__debug__" : Str)) = false := by decide) : SE X τ (.Call (.Name "isinstance" p) [e, .Name c p2] [] pos) (op1 (isC c) de) :=
  (pe_callB call_isi hg hm boot_isinstance (pa_cons h (pa_cons (pe_glob (v := .ref (He.ga X.K c)) hg2 hgl rfl hd) pa_nil n2) n1) (by decide) (by decide) n1 hpl).weak fun σ H Q ⟨B, O, env, d, r, h1, q⟩ => by
  obtain ⟨x, hx, h2⟩ := bnd h1
  refine ⟨B, O, env, x, r, hx, fun v H1 s1 r1 => ?_⟩
  cases x <;> simp only [isC, reduceCtorEq] at h2
  split at h2
  · rename_i hc
    cases h2
    subst hc
    cases r1
    rename_i a C dx fs ha hH hmg rs
    rw [hgl] at hmg
    cases hmg
    unfold isiB at hi
    simp only [Bool.and_eq_true, decide_eq_true_eq] at hi
    obtain ⟨i1, i2, i3, i4⟩ := hi
    exact ⟨_, _, .ref (He.ga X.K _), .ref (He.ga X.K _), true, rfl, .own _, .base (.ins hH hcl (He.eqO_ok i1) (He.eqO_ok i2) i3 i4), if_pos (beq_self_eq_true _), q _ H1 s1 (.bl _)⟩
  · cases h2
theorem se_strI {e : Expr} {de : Ex} {p pos : Pos} (hm : X.mg "str" = none) (h : SE X true e de) (hg : Gl X "str" := by rfl) (he : starEach [e] X.env = (false, eval e X.env) :: starEach [] X.env := by rfl) (hpl : (backTo pos (starEach [] X.env)).any (·.1) = false := by rfl) : SE X τ (.Call (.Name "str" p) [e] [] pos) (op1 strI de) := (pe_callTy call_str_int hg hm Pv.boot_str (sa_cons h sa_nil he) (by decide) (by decide) he hpl).weak fun σ H Q ⟨B, O, env, d, r, h1, q⟩ => by
  obtain ⟨x, hx, h2⟩ := bnd h1
  refine ⟨B, O, env, [x], r, by show (de env).bind _ = _; rw [hx]; rfl, fun vs H1 s1 r1 => ?_⟩
  obtain ⟨v, rfl, rx⟩ := reps_one r1
  cases rx <;> simp only [strI, reduceCtorEq] at h2
  split at h2
  · rename_i hz
    cases h2
    exact ⟨_, rfl, by omega, q _ H1 s1 (.str _)⟩
  · cases h2
end
section
variable {fa : List He.Fa} {fn : List He.DefD} {ex : List (PySem.W.Frag → Bool)} {K : PySem.W.Frag} {mg : Str → Option Value} (Z : ZF fa fn ex K mg)
include Z
theorem ZF.clsK (j : Nat) {c : Str} (h2 : fa[j]? = some (.cls c) := by rfl) : Cls K (He.ga K c) := He.cls_ok (Z.says.fact j h2)
end
end PV

namespace PV
variable [LT] [RT]
open PySem PySem.Spec PyProof.Rows L2
def whK (k : DEnv → Option DRes) : DRes → Option DRes
  | .nx e => k e
  | .ct e => k e
  | .bk e => some (.nx e)
  | .ret d => some (.ret d)
def whl (t : Tx) (b : Sx) : Nat → DEnv → Option DRes
  | 0, _ => none
  | n + 1, e => (t e).bind fun c => if c = true then (b e).bind (whK (whl t b n)) else some (.nx e)
def whE (t : Tx) (b : Sx) : Sx := whl t b szL
section
variable {X : Cx}
theorem s_while {c : Expr} {body : List Stmt} {dt : Tx} {db : Sx} {pos : Pos} (hp : PassesOwn (model X.prog X.w) X.A X.env X.xe) (hc : ST X c dt) (hb : SSs X body db) : SS X (.While c body [] pos) (whE dt db) := (ps_while hp hc hb).weak fun D σ H ⟨B, O, env, r, rl, h1, q⟩ => by
  refine ⟨fun m σ' H' => ∃ O' env', ERel X.K X.mg B O' σ' H' env' ∧ Fm O H O' H' ∧ whl dt db m env' = some r, ⟨szL, O, env, rl, Fm.of_same (Same.refl H), h1⟩, ?_⟩
  rintro m σ' H' ⟨O', env', rl', f', hl⟩
  cases m with
  | zero => cases hl
  | succ m =>
    unfold whl at hl
    obtain ⟨b, hb, hl⟩ := bnd hl
    refine ⟨B, O', env', b, rl', hb, fun H1 s1 => ?_⟩
    have f2 := f'.trans (Fm.of_same s1)
    cases b with
    | true =>
      rw [if_pos rfl] at hl
      obtain ⟨r1, hr1, hl⟩ := bnd hl
      refine iteT ⟨fun σ'' H'' => ∃ O'' env'', ERel X.K X.mg B O'' σ'' H'' env'' ∧ Fm O H O'' H'' ∧ whl dt db m env'' = some r, fun σ'' H'' z => ⟨m, Nat.lt_succ_self m, z⟩, B, O', env', r1, rl'.heap s1, hr1, ?_⟩
      cases r1 with
      | nx e2 => exact fun σ6 H6 O6 rl6 f6 => ⟨O6, e2, rl6, f2.trans f6, hl⟩
      | ct e2 => exact fun σ6 H6 O6 rl6 f6 => ⟨O6, e2, rl6, f2.trans f6, hl⟩
      | bk e2 =>
        cases hl
        exact fun σ6 H6 O6 rl6 f6 => q σ6 H6 O6 rl6 (f2.trans f6)
      | ret d =>
        cases hl
        exact q
    | false =>
      rw [if_neg (by decide)] at hl
      cases hl
      exact iteF (q σ' H1 O' (rl'.heap s1) f2)
end
end PV

namespace PV
variable [LT] [RT]
open PySem PySem.Spec PyProof.Rows L2
def indexOf : List D → D → Option Nat
  | [], _ => none
  | y :: ys, x => if D.eqv y x = true then some 0 else (indexOf ys x).map (· + 1)
def indL : D → D → Option D
  | .lst xs, x => if (x.plain 60 && D.plains 59 xs) = true then (indexOf xs x).map fun (j : Nat) => .int (j : Int) else none
  | _, _ => none
theorem toPs_get : ∀ {ys : List D} {i : Nat} {z : PyData}, (toPs ys)[i]? = some z → ∃ y, ys[i]? = some y ∧ z = toP y
  | [], _, _, h => by simp [toPs] at h
  | y :: ys, 0, z, h => by simp [toPs] at h; exact ⟨y, rfl, h.symm⟩
  | y :: ys, i + 1, z, h => by
    obtain ⟨w, h1, h2⟩ := toPs_get (ys := ys) (i := i) (by simpa [toPs] using h)
    exact ⟨w, by simpa using h1, h2⟩
theorem toPs_at : ∀ {ys : List D} {i : Nat} {y : D}, ys[i]? = some y → (toPs ys)[i]? = some (toP y)
  | [], _, _, h => by simp at h
  | y :: ys, 0, z, h => by simp at h; subst h; rfl
  | y :: ys, i + 1, z, h => by
    have := toPs_at (ys := ys) (i := i) (by simpa using h)
    simpa [toPs] using this
theorem plains_at {n : Nat} : ∀ {ys : List D} {i : Nat} {y : D}, D.plains n ys = true → ys[i]? = some y → D.plain n y = true
  | [], _, _, _, h => by simp at h
  | y :: ys, 0, z, p, h => by simp at h; subst h; simp only [D.plains, Bool.and_eq_true] at p; exact p.1
  | y :: ys, i + 1, z, p, h => by
    simp only [D.plains, Bool.and_eq_true] at p
    exact plains_at p.2 (by simpa using h)
theorem indexOf_ok : ∀ {ys : List D} {x : D} {j : Nat}, indexOf ys x = some j → (∃ y, ys[j]? = some y ∧ D.eqv y x = true) ∧ ∀ m y, m < j → ys[m]? = some y → D.eqv y x = false
  | [], _, _, h => by simp [indexOf] at h
  | y :: ys, x, j, h => by
    unfold indexOf at h
    split at h
    · rename_i e
      cases h
      exact ⟨⟨y, rfl, e⟩, fun m z hm => absurd hm (by omega)⟩
    · rename_i e
      obtain ⟨k, hk, rfl⟩ := Option.map_eq_some_iff.mp h
      obtain ⟨⟨z, h1, h2⟩, h3⟩ := indexOf_ok hk
      refine ⟨⟨z, by simpa using h1, h2⟩, fun m w hm hw => ?_⟩
      cases m with
      | zero => simp at hw; subst hw; simpa using e
      | succ m => exact h3 m w (by omega) (by simpa using hw)
section
variable {X : Cx} {τ : Bool}
theorem se_index {o e : Expr} {do_ de : Ex} {apos cpos : Pos} (hu : X.A.units + 65 < cLine) (ho : SE X true o do_) (he : SE X true e de) (hbase : attributeBase o "index" X.env (eval o X.env) = eval o X.env := by rfl)
    (hfew : ((backTo cpos (starEach [e] X.env)).all (fun x => !x.1) && (backToKw cpos (keywordEach [] X.env)).all (fun x => x.1.isSome) && decide (([e] : List Expr).length + ([] : List Keyword).length + (if ([] : List Keyword).isEmpty then 0 else 1) < 30)) = true := by rfl)
    (hs : starEach [e] X.env = (false, eval e X.env) :: starEach [] X.env := by rfl) (hpl : (backTo cpos (starEach [] X.env)).any (·.1) = false := by rfl) (hline : (apos.endLine == cpos.line) = true := by rfl) :
    SE X τ (.Call (.Attribute o "index" apos) [e] [] cpos) (op2 indL do_ de) := (pe_bm PySem.F.plainAttrs_list PySem.F.slot_list_index PySem.F.type_list_index (mt_indexD hu) ho (sa_cons he sa_nil hs) (hbase := hbase) (hfew := hfew) (hline := hline) (hs := hs) (hplain := hpl)).weak fun σ H Q ⟨B, O, env, d, r, h1, q⟩ => by
  obtain ⟨x, hx, h2⟩ := bnd h1
  obtain ⟨y, hy, h3⟩ := bnd h2
  refine ⟨B, O, env, x, r, hx, fun v H1 s1 r1 => ?_⟩
  cases x <;> simp only [indL, reduceCtorEq] at h3
  rename_i ys
  split at h3
  · rename_i hp
    simp only [Bool.and_eq_true] at hp
    obtain ⟨j, hj, e1⟩ := Option.map_eq_some_iff.mp h3
    subst e1
    have r1' := r1
    obtain ⟨a, xs, rfl, ha, hA, t⟩ := r1.lst_inv
    refine ⟨.inl ⟨rfl, _, .inl (.inl hA)⟩, B, O, env, [y], r.heap s1, by show (de env).bind _ = _; rw [hy]; rfl, fun vs H2 s2 r2 => ?_⟩
    obtain ⟨w, rfl, rw_⟩ := reps_one r2
    have pl : D.plain 60 (.lst ys) = true := by simp only [D.plain]; exact hp.2
    obtain ⟨⟨z, z1, z2⟩, z3⟩ := indexOf_ok hj
    refine ⟨a, w, toP y, toPs ys, j, toP z, rfl, rfl, plain_dp pl (r1'.same s2), plain_dp hp.1 rw_, plain_shaped pl (by decide), plain_shaped hp.1 (by decide), toPs_at z1, ?_, fun m z' hm hz' => ?_, q _ H2 (s1.trans s2) (.int _)⟩
    · rw [eqv_toP (plains_at hp.2 z1) hp.1]; exact z2
    · obtain ⟨w', w1, rfl⟩ := toPs_get hz'
      rw [eqv_toP (plains_at hp.2 w1) hp.1]
      exact z3 m w' hm w1
  · cases h3
end
end PV

namespace PV
variable [LT] [RT]
open PySem PySem.Spec PyProof.Rows L2
end PV

namespace PV
variable [LT] [RT]
open PySem PySem.Spec PyProof.Rows L2
structure LamP (sc scope : Scope) (ps : List Str) : Prop where
  kind : scope.kind = .function
  co : scope.isCoroutine = false
  gen : scope.isGenerator = false
  own : ∀ y ∈ scope.names, y.2 ≠ .cell
  loc : ∀ y ∈ scope.names, y.2 = .local → y.1 ∈ ps
  par : ∀ x ∈ ps, scope.names.lookup x = some .local
  free : ∀ y ∈ scope.names, y.2 = .free → sc.names.lookup y.1 = some .cell ∨ sc.names.lookup y.1 = some .free
theorem LamP.has {X : Cx} {scope : Scope} {ps : List Str} (L : LamP X.env.scope scope ps) (ok : X.Ok) (y : Str × NameKind) (hy : y ∈ scope.names) (e : y.2 = .free) : ∃ c, X.env.cells.lookup y.1 = some c :=
  (L.free y hy e).elim (fun k => ok.has _ (.inl k)) fun k => ok.has _ (.inr k)
end PV

namespace PV
variable [LT] [RT]
open PySem PySem.Spec PyProof.Rows L2
end PV

namespace PV
variable [LT] [RT]
open PySem PySem.Spec PyProof.Rows L2
def valS : DSlot → DSlot
  | .val d => .val d
  | _ => .no
def vals (e : DEnv) : DEnv := e.map valS
section
variable {X : Cx} {pins : List (Addr × Obj)} {σ : L2.St} {H : Hp} {s : Shared} {B : Bs} {O : Nat → Option Addr} {env : DEnv}
theorem nodup_get {α : Type} : ∀ {l : List α} {i j : Nat} {x : α}, l.Nodup → l[i]? = some x → l[j]? = some x → i = j := fun {l i j x} nd h1 h2 => by
  obtain ⟨a1, b1⟩ := List.getElem?_eq_some_iff.mp h1
  obtain ⟨a2, b2⟩ := List.getElem?_eq_some_iff.mp h2
  rcases Nat.lt_trichotomy i j with h | h | h
  · exact absurd (b1.trans b2.symm) (List.pairwise_iff_getElem.mp nd i j a1 a2 h)
  · exact h
  · exact absurd (b2.trans b1.symm) (List.pairwise_iff_getElem.mp nd j i a2 a1 h)
end
end PV

namespace PV
variable [LT] [RT]
open PySem PySem.Spec PyProof.Rows L2

section
variable {X : Cx} {pins : List (Addr × Obj)} {σ : L2.St} {H : Hp} {s : Shared}
structure MaxJ (X : Cx) (pins : List (Addr × Obj)) (σ : L2.St) (H : Hp) (f : Addr) (fo : Obj) (S I0 : Addr) (H' : Hp) (s : Shared) : Prop where
  inv : Inv X pins σ H' s
  sm : Same H H'
  nS : H' S = none
  nI : H' I0 = none
  nf : H' f = none
  gf : s.heap.get? f = some fo
theorem MaxJ.call {f S I0 : Addr} {fo oS oI : Obj} {H' : Hp} {s0 s s' : Shared} {H0 : Hp} {Q : VK} {u : Value} (I : Inv X pins σ H0 s0) (hS : s0.heap.objs.size ≤ S) (hI : s0.heap.objs.size ≤ I0) (fs : f ∉ frs X.stack) (j : MaxJ X pins σ H f fo S I0 H' s) (gS : s.heap.get? S = some oS) (gI : s.heap.get? I0 = some oI)
    (c : CE X.stack X.prog X.w H' s (fun w H2 => Same H' H2 ∧ Q w H2) u s') : ∃ w H2, MaxJ X pins σ H f fo S I0 H2 s' ∧ Same H' H2 ∧ RelV w u ∧ Q w H2 ∧ s'.heap.get? S = some oS ∧ s'.heap.get? I0 = some oI := by
  have nf : ∀ f, s0.heap.objs.size ≤ f → f ∉ frs X.stack := fun f hf z => (List.mem_cons.mp (I.stkSub _ z)).elim (fun e => absurd I.lt (by rw [← e]; exact Nat.not_lt.mpr hf)) fun e => I.nofs hf e
  obtain ⟨w, H2, os, bare, un, hok, r, sm, q⟩ := c
  exact ⟨w, H2, ⟨j.inv.call' os un hok bare fun b hb => (nomatch hb), j.sm.trans sm, un.free _ _ gS j.nS (by simp), un.free _ _ gI j.nI (by simp), un.free _ _ j.gf j.nf (by simp), un.keep _ _ j.gf j.nf fs (by simp)⟩, sm, r, q, un.keep _ _ gS j.nS (nf _ hS) (by simp), un.keep _ _ gI j.nI (nf _ hI) (by simp)⟩
end
end PV

namespace PV
open PySem PySem.Spec PyProof.Rows L2
def pth (x : Str) : Str × Option Str := if x == ("Code.nearest" : Str) then ("Code", some "nearest") else (x, none)
def mkB (K : PySem.W.Frag) (c : Addr) (x : Str) : Bool := match K.lookup (He.fAd K (pth x)) with
  | some ⟨_, _, .func fd, _⟩ => (match fd.code with
    | .ref c' => c' == c
    | _ => false)
  | _ => true
def lamQ (x : Str) : Str := x ++ ".<locals>." ++ "<lambda>"
class LB [LT] (K : PySem.W.Frag) (mg : Str → Option Value) (base : Heap) (ls : List Str) : Prop where
  ok : ∀ x ∈ ls, ∃ c P, LamX.TabB base mg c P ∧ (P, lamQ x) ∈ LT.T ∧ (∀ p ∈ LT.T, p.1 = P → p.2 = lamQ x) ∧ mkB K c x = true
end PV

namespace PV
variable [LT] [RT]
open PySem PySem.Spec PyProof.Rows L2
end PV

namespace PV
variable [LT] [RT]
open PySem PySem.Spec PyProof.Rows L2
end PV

namespace PV
variable [LT] [RT]
open PySem PySem.Spec PyProof.Rows L2
def rL (mg : Str → Option Value) (f : Fn) : List V → Hp → VK → Prop := fun vs H Q => ∃ A ds xs, Fr A H ∧ Reps mg A H vs ds ∧ f ds = some (.lst xs) ∧ ∀ p H', Same H H' → H p = none → Own mg (fun a => A a ∧ a ≠ p) H' p (.lst xs) → Q (.ref p) H'
def spL (mg : Str → Option Value) (f : Fn) : Sp := fun vs H Q _ => rL mg f vs H Q
section
variable {P : Program} {w : World} {K : PySem.W.Frag} {mg : Str → Option Value} {base : Heap}
structure CallN (P : Program) (w : World) (K : PySem.W.Frag) (mg : Str → Option Value) (base : Heap) (k : Nat) (x : Str) (F : Fn) : Prop where
  ex : ∃ f fd ps, FnOk P w K mg base CX0 k f fd ps (spL mg F) ∧ mg x = some (.ref f) ∧ PySem.W.keepIn K (.ref f) = true ∧ Binds K fd ps []
structure MethL (P : Program) (w : World) (K : PySem.W.Frag) (mg : Str → Option Value) (base : Heap) (k : Nat) (c m : Str) (F : Fn) : Prop where
  ex : ∃ C f fd ps, FnOk P w K mg base CX0 k f fd ps (spL mg F) ∧ mg c = some (.ref C) ∧ Cls K C ∧ Meth K C m f ∧ Binds K fd ps []
end
end PV

namespace PV
variable [LT] [RT]
open PySem PySem.Spec PyProof.Rows L2
def addL : D → D → Option D
  | .lst a, .lst b => if a.length + b.length ≤ szL then some (.lst (a ++ b)) else none
  | _, _ => none
section
variable {X : Cx}
theorem sn_cat {a b : Expr} {da db : Ex} {pos : Pos} (ha : SE X false a da) (hb : SE X false b db) : SN X (.BinOp a .Add b pos) (op2 addL da db) := (pe_op op_cat ha hb).weak fun σ H Q ⟨B, O, env, d, r, h1, q⟩ => by
  obtain ⟨x, hx, h1⟩ := bnd h1
  obtain ⟨y, hy, h1⟩ := bnd h1
  refine ⟨B, O, env, x, r, hx, fun v H1 s1 r1 => ⟨B, O, env, y, r.heap s1, hy, fun w H2 s2 r2 => ?_⟩⟩
  cases x <;> simp only [addL, reduceCtorEq] at h1
  cases y <;> simp only [reduceCtorEq] at h1
  split at h1
  · rename_i hz
    cases h1
    have r1' := r1.same s2
    cases r1' with
    | lst a1 h3 t1 =>
      cases r2 with
      | lst a2 h4 t2 =>
        rename_i p1 xs p2 ys
        have ss := s1.trans s2
        exact ⟨p1, p2, xs, ys, rfl, rfl, h3, h4, by rw [t1.len, t2.len]; exact szL_ok hz, fun p hp => q p _ (ss.trans (same_upd hp)) (Same.free ss hp) (.lst upd_same (((Reps.ne hp t1).append (Reps.ne hp t2)).same (same_upd hp)))⟩
  · cases h1
end
end PV

namespace PV
variable [LT] [RT]
open PySem PySem.Spec PyProof.Rows L2
end PV

namespace PV
variable [LT] [RT]
open PySem PySem.Spec PyProof.Rows L2
end PV

namespace PV
variable [LT] [RT]
open PySem PySem.Spec PyProof.Rows L2
structure VR (mg : Str → Option Value) (A : Addr → Prop) (σ : L2.St) (H : Hp) (env : DEnv) : Prop where
  len : env.length = σ.length
  vals : ∀ (i : Nat) (d : D), env[i]? = some (DSlot.val d) → ∃ v, σ[i]? = some (some v) ∧ Rep mg A H v d
  pl : ∀ (i : Nat) (x : DSlot), env[i]? = some x → x = .no ∨ ∃ d, x = .val d
def grown (A : Addr → Prop) (H : Hp) : Addr → Prop := fun x => A x ∨ H x = none
section
variable {K : PySem.W.Frag} {mg : Str → Option Value} {A : Addr → Prop} {σ : L2.St} {H H1 : Hp} {env : DEnv}
theorem VR.erel (r : VR mg A σ H env) (sf : Addr) (tb : LamX.Tabs LT.T H) : ERel K mg ⟨H, A, sf, tb⟩ (fun _ => none) σ H env := by
  refine ⟨r.len, Same.refl H, fun i d e => ?_, fun i d e => ?_, fun i d e => ?_, fun i j p a _ => (nomatch a), fun i p a => (nomatch a), fun i p a => (nomatch a), ⟨0, fun _ _ => rfl⟩, fun i p a => (nomatch a)⟩
  · obtain ⟨v, h1, h2⟩ := r.vals i d e
    exact ⟨v, h1, h2.mono (fun a h => ⟨.inl h, .inr fun _ z => nomatch z⟩) keepRefl⟩
  · rcases r.pl i _ e with z | ⟨_, z⟩ <;> cases z
  · rcases r.pl i _ e with z | ⟨_, z⟩ <;> cases z
theorem VR.heap (r : VR mg A σ H env) (s : Same H H1) : VR mg (grown A H) σ H1 env := ⟨r.len, fun i d e => by
  obtain ⟨v, h1, h2⟩ := r.vals i d e
  exact ⟨v, h1, (h2.same s).mono (fun a h => .inl h) keepRefl⟩, r.pl⟩
theorem VR.set (r : VR mg A σ H env) {i : Nat} {v : V} {d : D} (rv : Rep mg A H v d) : VR mg A (σ.set i (some v)) H (env.set i (.val d)) := by
  refine ⟨by simp [r.len], fun j d' e => ?_, fun j x e => ?_⟩
  · rcases get_set e with ⟨rfl, e2, hl⟩ | ⟨hj, e2⟩
    · cases e2
      exact ⟨v, List.getElem?_set_self (by rw [← r.len]; exact hl), rv⟩
    · obtain ⟨w, h1, h2⟩ := r.vals j _ e2
      exact ⟨w, by rw [List.getElem?_set_ne (Ne.symm hj)]; exact h1, h2⟩
  · rcases get_set e with ⟨rfl, e2, hl⟩ | ⟨hj, e2⟩
    · exact .inr ⟨d, e2⟩
    · exact r.pl j x e2
theorem VR.tE (r : VR mg A σ H env) (tb : LamX.Tabs LT.T H) {de : Ex} {d : D} {Q : VK} {τ : Bool} (hd : de env = some d) (q : ∀ v H1, Same H H1 → Rep mg (grown A H) H1 v d → Q v H1) : PV.tE K mg τ de σ H Q :=
  ⟨⟨H, A, 0, tb⟩, fun _ => none, env, d, r.erel 0 tb, hd, fun v H1 s rv => q v H1 s (rv.mono (fun a h => h.1) keepRefl)⟩
theorem VR.tT (r : VR mg A σ H env) (tb : LamX.Tabs LT.T H) {dt : Tx} {b : Bool} {Q : Bool → Hp → Prop} (hd : dt env = some b) (q : ∀ H1, Same H H1 → Q b H1) : PV.tT K mg dt σ H Q :=
  ⟨⟨H, A, 0, tb⟩, fun _ => none, env, b, r.erel 0 tb, hd, q⟩
end
theorem keep_out {A : Addr → Prop} {H : Hp} {b : Addr} {ys : List V} {o' : HO} (hb : ¬ A b) (hH : H b = some (.lst ys)) : Keep A H (upd H b o') := by
  have ne : ∀ {a}, A a → a ≠ b := fun ha z => hb (z ▸ ha)
  refine ⟨fun a u ha _ r => ?_, fun a C dx fs ha e => ?_, fun a xs ha e => ?_, fun a xs e => ?_, fun a ob xs e => ?_⟩
  · rcases r with r | ⟨o, r⟩
    · exact .inl (by rw [upd_ne (ne ha)]; exact r)
    · exact .inr ⟨o, by rw [upd_ne (ne ha)]; exact r⟩
  · rw [upd_ne (ne ha)]; exact e
  · rw [upd_ne (ne ha)]; exact e
  · rw [upd_ne (fun z => by subst z; rw [hH] at e; cases e)]; exact e
  · rw [upd_ne (fun z => by subst z; rw [hH] at e; cases e)]; exact e
structure TB (mg : Str → Option Value) (A : Addr → Prop) (H : Hp) (a : Addr) (bs : List Addr) (rows : List (List D)) : Prop where
  ha : H a = some (.lst (bs.map V.ref))
  na : ¬ A a
  nd : bs.Nodup
  nab : a ∉ bs
  len : bs.length = rows.length
  row : ∀ (j : Nat) (b : Addr) (r : List D), bs[j]? = some b → rows[j]? = some r → ¬ A b ∧ ∃ ys, H b = some (.lst ys) ∧ Reps mg A H ys r
section
variable {mg : Str → Option Value} {A : Addr → Prop} {H H1 : Hp} {a : Addr} {bs : List Addr} {rows : List (List D)}
theorem TB.heap (t : TB mg A H a bs rows) (s : Same H H1) : TB mg (grown A H) H1 a bs rows := by
  refine ⟨s _ _ t.ha, fun h => ?_, t.nd, t.nab, t.len, fun j b r hb hr => ?_⟩
  · rcases h with h | h
    · exact t.na h
    · rw [t.ha] at h; cases h
  · obtain ⟨h1, ys, h2, h3⟩ := t.row j b r hb hr
    refine ⟨fun h => ?_, ys, s _ _ h2, (h3.same s).mono (fun a h => .inl h) keepRefl⟩
    rcases h with h | h
    · exact h1 h
    · rw [h2] at h; cases h
theorem TB.push (t : TB mg A H a bs rows) {j : Nat} {b : Addr} {r : List D} {ys : List V} {v : V} {d : D} (hb : bs[j]? = some b) (hr : rows[j]? = some r) (hH : H b = some (.lst ys)) (rs : Reps mg A H ys r) (rv : Rep mg A H v d) :
    TB mg A (upd H b (.lst (ys ++ [v]))) a bs (rows.set j (r ++ [d])) := by
  have hbA := (t.row j b r hb hr).1
  have kp : Keep A H (upd H b (.lst (ys ++ [v]))) := keep_out hbA hH
  have hab : a ≠ b := fun z => t.nab (z ▸ List.mem_of_getElem? hb)
  have hj : j < rows.length := (List.getElem?_eq_some_iff.mp hr).1
  refine ⟨by rw [upd_ne hab]; exact t.ha, t.na, t.nd, t.nab, by rw [List.length_set]; exact t.len, fun i c r' hc hr' => ?_⟩
  by_cases e : i = j
  · subst e
    rw [hb] at hc
    cases hc
    rw [List.getElem?_set_self hj] at hr'
    cases hr'
    refine ⟨hbA, _, upd_same, ?_⟩
    exact (rs.mono (fun _ h => h) kp).append (.cons (rv.mono (fun _ h => h) kp) .nil)
  · rw [List.getElem?_set_ne (Ne.symm e)] at hr'
    obtain ⟨h1, zs, h2, h3⟩ := t.row i c r' hc hr'
    have hcb : c ≠ b := fun z => by
      subst z
      exact e (nodup_get t.nd hc hb)
    exact ⟨h1, zs, by rw [upd_ne hcb]; exact h2, h3.mono (fun _ h => h) kp⟩
theorem TB.same (t : TB mg A H a bs rows) : bs.length = rows.length := t.len
theorem TB.rep (t : TB mg A H a bs rows) : Rep mg (fun x => A x ∨ x = a ∨ x ∈ bs) H (.ref a) (.lst (rows.map D.lst)) := by
  refine .lst (.inr (.inl rfl)) t.ha ?_
  have : ∀ (cs : List Addr) (rs : List (List D)), cs.length = rs.length → (∀ (j : Nat) b r, cs[j]? = some b → rs[j]? = some r → b ∈ bs ∧ ∃ ys, H b = some (.lst ys) ∧ Reps mg A H ys r) → Reps mg (fun x => A x ∨ x = a ∨ x ∈ bs) H (cs.map V.ref) (rs.map D.lst) := fun cs => by
    induction cs with
    | nil =>
      intro rs hl _
      cases rs with
      | nil => exact .nil
      | cons => cases hl
    | cons c cs ih =>
      intro rs hl h
      cases rs with
      | nil => cases hl
      | cons r rs =>
        obtain ⟨h1, ys, h2, h3⟩ := h 0 c r rfl rfl
        exact .cons (.lst (.inr (.inr h1)) h2 (h3.mono (fun _ z => .inl z) keepRefl)) (ih rs (by simpa using hl) fun j b r' hb hr => h (j + 1) b r' hb hr)
  exact this bs rows t.len fun j b r hb hr => ⟨List.mem_of_getElem? hb, (t.row j b r hb hr).2⟩
end
end PV

namespace PV
variable [LT] [RT]
open PySem PySem.Spec PyProof.Rows L2
structure FI (mg : Str → Option Value) (H0 : Hp) (A0 P : Addr → Prop) (Hw : Hp) (a : Addr) (bs : List Addr) (A : Addr → Prop) (σ : L2.St) (H : Hp) (env : DEnv) (rows : List (List D)) : Prop where
  vr : VR mg A σ H env
  tb : LamX.Tabs LT.T H
  t : TB mg A H a bs rows
  s3 : σ[3]? = some (some (.ref a))
  e3 : env[3]? = some .no
  e8 : env[8]? = some .no
  sub : ∀ x, A x → A0 x ∨ H0 x = none
  sm : Same H0 H
  fa : H0 a = none
  fb : ∀ b ∈ bs, H0 b = none
  l11 : env.length = 11
  pw : ∀ x, P x → A x
  kw : Keep P Hw H
section
variable {K : PySem.W.Frag} {mg : Str → Option Value} {H0 Hw : Hp} {A0 A P : Addr → Prop} {a : Addr} {bs : List Addr} {σ : L2.St} {H H1 : Hp} {env : DEnv} {rows : List (List D)}
theorem FI.heap (f : FI mg H0 A0 P Hw a bs A σ H env rows) (s : Same H H1) : FI mg H0 A0 P Hw a bs (grown A H) σ H1 env rows :=
  ⟨f.vr.heap s, s.tabs f.tb, f.t.heap s, f.s3, f.e3, f.e8, fun x h => h.elim (f.sub x) fun z => .inr (f.sm.dom x z), f.sm.trans s, f.fa, f.fb, f.l11, fun x h => .inl (f.pw x h), f.kw.trans (Same.keep s)⟩
theorem FI.set (f : FI mg H0 A0 P Hw a bs A σ H env rows) {i : Nat} {v : V} {d : D} (rv : Rep mg A H v d) (h3 : i ≠ 3) (h8 : i ≠ 8) : FI mg H0 A0 P Hw a bs A (σ.set i (some v)) H (env.set i (.val d)) rows :=
  ⟨f.vr.set rv, f.tb, f.t, by rw [List.getElem?_set_ne h3]; exact f.s3, by rw [List.getElem?_set_ne h3]; exact f.e3, by rw [List.getElem?_set_ne h8]; exact f.e8, f.sub, f.sm, f.fa, f.fb, by rw [List.length_set]; exact f.l11, f.pw, f.kw⟩
theorem FI.push (f : FI mg H0 A0 P Hw a bs A σ H env rows) {j : Nat} {b : Addr} {r : List D} {ys : List V} {v : V} {d : D} (hb : bs[j]? = some b) (hr : rows[j]? = some r) (hH : H b = some (.lst ys)) (rs : Reps mg A H ys r) (rv : Rep mg A H v d) :
    FI mg H0 A0 P Hw a bs A σ (upd H b (.lst (ys ++ [v]))) env (rows.set j (r ++ [d])) := by
  have hbA := (f.t.row j b r hb hr).1
  have kp : Keep A H (upd H b (.lst (ys ++ [v]))) := keep_out hbA hH
  refine ⟨⟨f.vr.len, fun i d' e => ?_, f.vr.pl⟩, fun p hp => tabS_upd hH trivial (f.tb p hp), f.t.push hb hr hH rs rv, f.s3, f.e3, f.e8, f.sub, f.sm.put (f.fb b (List.mem_of_getElem? hb)) hH trivial, f.fa, f.fb, f.l11, f.pw, f.kw.trans (kp.sub f.pw)⟩
  obtain ⟨w, h1, h2⟩ := f.vr.vals i _ e
  exact ⟨w, h1, h2.mono (fun _ h => h) kp⟩
end
end PV

namespace PV
variable [LT] [RT]
open PySem PySem.Spec PyProof.Rows L2
end PV

namespace PV
variable [LT] [RT]
open PySem PySem.Spec PyProof.Rows L2
end PV

namespace PV
variable [LT] [RT]
open PySem PySem.Spec PyProof.Rows L2
section
variable {X : Cx}
theorem VR.put {mg : Str → Option Value} {A : Addr → Prop} {σ : L2.St} {H : Hp} {env : DEnv} (r : VR mg A σ H env) {i : Nat} {v : V} {d : D} (hs : σ[i]? = some (some v)) (rv : Rep mg A H v d) : VR mg A σ H (env.set i (.val d)) := by
  refine ⟨by rw [List.length_set]; exact r.len, fun j d' e => ?_, fun j x e => ?_⟩
  · rcases get_set e with ⟨rfl, e2, hl⟩ | ⟨hj, e2⟩
    · cases e2
      exact ⟨v, hs, rv⟩
    · exact r.vals j _ e2
  · rcases get_set e with ⟨rfl, e2, hl⟩ | ⟨hj, e2⟩
    · exact .inr ⟨d, e2⟩
    · exact r.pl j x e2
theorem VR.mono {mg : Str → Option Value} {A A' : Addr → Prop} {σ : L2.St} {H : Hp} {env : DEnv} (r : VR mg A σ H env) (h : ∀ x, A x → A' x) : VR mg A' σ H env := ⟨r.len, fun i d e => by
  obtain ⟨v, h1, h2⟩ := r.vals i d e
  exact ⟨v, h1, h2.mono h keepRefl⟩, r.pl⟩
end
end PV

namespace PV
variable [LT] [RT]
open PySem PySem.Spec PyProof.Rows L2
end PV

namespace PV
variable [LT] [RT]
open PySem PySem.Spec PyProof.Rows L2
end PV

namespace PV
variable [LT] [RT]
open PySem PySem.Spec PyProof.Rows L2
section
variable {K : PySem.W.Frag} {mg : Str → Option Value} {B : Bs} {O : Nat → Option Addr} {env : DEnv} {σ : L2.St} {H : Hp} {d : Addr} {kvs : List (List Key × V)}
theorem own_unlock {A : Addr → Prop} {p : Addr} {od : Obj} {x : PV.D} (hd : H d = some (.frz od (.dT kvs))) (o : Own mg A H p x) : Own mg A (upd H d (.dT kvs)) p x := by
  have nt : ∀ u, H p = some u → (∀ o w, u ≠ .frz o w) → upd H d (.dT kvs) p = some u := fun u h hu => at_unlock hd h hu
  cases o with
  | lst h r => exact .lst (nt _ h fun _ _ z => nomatch z) (Reps.unlock hd r)
  | dicK h r => exact .dicK (nt _ h fun _ _ z => nomatch z) (Reps.unlock hd r)
  | dicT h r => exact .dicT (nt _ h fun _ _ z => nomatch z) (Reps.unlock hd r)
  | ins h c r => exact .ins (nt _ h fun _ _ z => nomatch z) c (Reps.unlock hd r)
theorem ERel.unlock {od : Obj} {B0 : Bs} (rl0 : Same B0.H0 H) (hd0 : H d = some (.dT kvs)) (rl : ERel K mg (lockB B0 d od kvs) O σ H' env) (hd : H' d = some (.frz od (.dT kvs))) : ERel K mg B0 O σ (upd H' d (.dT kvs)) env := by
  have dn : ∀ {a τ O}, Lv (lockB B0 d od kvs) O τ a → Lv B0 O τ a := fun h => lockB_Lv.mp h
  have ne : ∀ {j p}, O j = some p → p ≠ d := fun {j p} h z => by
    obtain ⟨o, h1, w⟩ := rl.trk j p h
    subst z
    rw [hd] at h1; cases h1; exact w
  refine ⟨rl.len, ⟨fun b o e _ => ?_, fun t p hp => tabS_unlock hd (rl.same.tab (fun p2 hp2 => ?_) p hp), fun b h => ?_⟩, fun i x e => ?_, fun i x e => ?_, fun i x e => ?_, rl.inj, fun j p e => ?_, fun i p e => lockB_none.mp (rl.fr0 i p e), rl.bd, rl.nst⟩
  · by_cases hb : b = d
    · subst hb
      have := rl0 b o e
      rw [hd0] at this
      cases this
      exact upd_same
    · rw [upd_ne hb]
      refine rl.same b o ?_
      show (if b = d ∧ _ then _ else B0.H0 b) = _
      rw [if_neg fun z => hb z.1]
      exact e
  · exact lockH_tabs B0 d od kvs p2 hp2
  · exact lockB_none.mp (rl.same.dom b (dom_upd h))
  · obtain ⟨v, h1, h2⟩ := rl.vals i x e
    exact ⟨v, h1, (Rep.unlock hd h2).mono (fun a z => dn z) keepRefl⟩
  · obtain ⟨p, h1, h2, h3, h4⟩ := rl.owns i x e
    exact ⟨p, h1, h2, lockB_none.mp h3, (own_unlock hd h4).mono (fun a z => dn z) keepRefl fun _ z => z⟩
  · obtain ⟨h1, h2, h3⟩ := rl.slfs i x e
    exact ⟨h1, h2, (own_unlock hd h3).mono (fun a z => dn z) keepRefl fun _ z => z⟩
  · obtain ⟨o, h1, w⟩ := rl.trk j p e
    exact ⟨o, by rw [upd_ne (ne e)]; exact h1, w⟩
theorem Fm.unlock {od : Obj} {O' : Nat → Option Addr} {H' : Hp} (hd0 : H d = some (.dT kvs)) (hO : ∀ j, O j ≠ some d) (f : Fm O (upd H d (.frz od (.dT kvs))) O' H') : H' d = some (.frz od (.dT kvs)) ∧ Fm O H O' (upd H' d (.dT kvs)) := by
  have hd := f.keep d _ hO upd_same
  refine ⟨hd, fun b o hb e _ => ?_, fun t p hp => tabS_unlock hd (f.tab (fun p2 hp2 => tabS_upd hd0 trivial (t p2 hp2)) p hp), fun b h => dom_upd (f.dom b (dom_upd h)), fun j c e => ?_⟩
  · by_cases hbd : b = d
    · subst hbd; rw [hd0] at e; cases e; exact upd_same
    · rw [upd_ne hbd]
      exact f.keep b o hb (by rw [upd_ne hbd]; exact e)
  · rcases f.sub j c e with h | h
    · exact .inl h
    · exact .inr (dom_upd h)
end
end PV

namespace PV
variable [LT] [RT]
open PySem PySem.Spec PyProof.Rows L2
structure SameN (n : Addr) (H H' : Hp) : Prop where
  stay : ∀ (b : Addr) (o : HO), b ≠ n → H b = some o → [NT o] → H' b = some o
  tab : LamX.Tabs LT.T H → LamX.Tabs LT.T H'
  dom : ∀ b, b ≠ n → H' b = none → H b = none
theorem SameN.after {x : Addr} {H H1 H' : Hp} (e : SameN x H1 H') (s : Same H H1) (hx : H x = Option.none) : Same H H' := ⟨fun b o z => e.stay b o (ne_of_none z hx) (s b o z), fun t => e.tab (s.tab t), fun b z => by
  by_cases hb : b = x
  · subst hb; exact hx
  · exact s.dom b (e.dom b hb z)⟩
def spO (mg : Str → Option Value) (F : Fn) : Sp := fun vs H Q _ => ∃ (A : Addr → Prop) (v0 v1 : V) (n : Addr) (d0 d1 dn d : D), vs = [v0, v1, .ref n] ∧ ¬ A n ∧ (∀ a, H a = none → A a) ∧ LamX.Tabs LT.T H ∧ Rep mg A H v0 d0 ∧ Rep mg A H v1 d1 ∧ Own mg A H n dn ∧ F [d0, d1, dn] = some d ∧
  ∀ v H', SameN n H H' → Rep mg (fun a => A a ∨ a = n) H' v d → Q v H'
theorem own_wr {mg : Str → Option Value} {A : Addr → Prop} {H : Hp} {a : Addr} {d : D} (o : Own mg A H a d) : ∃ o, H a = some o ∧ Wr o := by
  cases o with
  | lst h _ => exact ⟨_, h, trivial⟩
  | dicK h _ => exact ⟨_, h, trivial⟩
  | dicT h _ => exact ⟨_, h, trivial⟩
  | ins h _ _ => exact ⟨_, h, trivial⟩
theorem tabs_less {H : Hp} {n : Addr} {o : HO} (h : H n = some o) (w : Wr o) (t : LamX.Tabs LT.T H) : LamX.Tabs LT.T (fun b => if b = n then none else H b) := fun p hp => by
  obtain ⟨ps, h1, h2, h3⟩ := t p hp
  have ne : p.1 ≠ n := fun e => by rw [e, h] at h1; cases h1; exact w
  refine ⟨ps, by show (if p.1 = n then none else H p.1) = _; rw [if_neg ne]; exact h1, h2, fun pos cv hc => ?_⟩
  obtain ⟨c, e1, e2⟩ := h3 pos cv hc
  have nc : c ≠ n := fun e => by rw [e, h] at e2; cases e2; exact w _ _ rfl
  exact ⟨c, e1, by show (if c = n then none else H c) = _; rw [if_neg nc]; exact e2⟩
theorem same_less {H : Hp} {n : Addr} : Same (fun b => if b = n then none else H b) H := Same.of fun b o e => by
  split at e
  · cases e
  · exact e
section
variable {P : Program} {w : World} {K : PySem.W.Frag} {mg : Str → Option Value} {base : Heap}
structure MethO (P : Program) (w : World) (K : PySem.W.Frag) (mg : Str → Option Value) (base : Heap) (k : Nat) (c m : Str) (F : Fn) : Prop where
  ex : ∃ C f fd ps, FnOk P w K mg base CX0 k f fd ps (spO mg F) ∧ mg c = some (.ref C) ∧ Cls K C ∧ Meth K C m f ∧ Binds K fd ps []
end
end PV

namespace PV
variable [LT] [RT]
open PySem PySem.Spec PyProof.Rows L2
def insR (sp pts : D) (rows : List D) : D := .ins "Rows" ["space", "points", "rows"] [sp, pts, .lst rows]
structure KS (mg : Str → Option Value) (H0 : Hp) (A0 : Addr → Prop) (r : Addr) (A : Addr → Prop) (σ : L2.St) (H : Hp) (env : DEnv) : Prop where
  vr : VR mg A σ H env
  tb : LamX.Tabs LT.T H
  s0 : σ[0]? = some (some (.ref r))
  sub : ∀ a, A a → A0 a ∨ H0 a = none
  sm : Same H0 H
  l1 : 1 ≤ env.length
section
variable {K : PySem.W.Frag} {mg : Str → Option Value} {H0 : Hp} {A0 : Addr → Prop} {r : Addr} {A : Addr → Prop} {σ : L2.St} {H H1 : Hp} {env : DEnv}
theorem KS.heap (k : KS mg H0 A0 r A σ H env) (s : Same H H1) : KS mg H0 A0 r (grown A H) σ H1 env :=
  ⟨k.vr.heap s, s.tabs k.tb, k.s0, fun a h => h.elim (k.sub a) fun z => .inr (k.sm.dom a z), k.sm.trans s, k.l1⟩
theorem KS.set (k : KS mg H0 A0 r A σ H env) {i : Nat} {v : V} {d : D} (hi : i ≠ 0) (rv : Rep mg A H v d) : KS mg H0 A0 r A (σ.set i (some v)) H (env.set i (.val d)) :=
  ⟨k.vr.set rv, k.tb, by rw [List.getElem?_set_ne hi]; exact k.s0, k.sub, k.sm, by rw [List.length_set]; exact k.l1⟩
theorem KS.asg {D' : Ends} (k : KS mg H0 A0 r A σ H env) {i : Nat} {de : Ex} {d : D} {τ : Bool} (hi : i ≠ 0) (hd : de env = some d) (q : ∀ A' σ' H', KS mg H0 A0 r A' σ' H' (env.set i (.val d)) → D'.nx σ' H') : tAsg (tE K mg τ de) (gName i) D' σ H :=
  k.vr.tE k.tb hd fun v H1 s rv => q _ _ _ ((k.heap s).set hi rv)
end
def st2 (a b : D) : DEnv := [.val a, .val b]
def st3 (a b c : D) : DEnv := [.val a, .val b, .val c]
def spKp (mg : Str → Option Value) (G : D → D → D → Option D) : Sp := fun vs H Q _ => ∃ (A : Addr → Prop) (r L C dx : Addr) (fs : List (Str × V)) (ts : List V) (self : D) (v1 v2 : V) (d1 d2 t : D), vs = [.ref r, v1, v2] ∧ (∀ a, H a = none → A a) ∧ LamX.Tabs LT.T H ∧
  H r = some (.ins C dx fs) ∧ fs.lookup ("rows" : Str) = some (V.ref L) ∧ mg "Rows" = some (.ref C) ∧ H L = some (.lst ts) ∧ Rep mg A H (.ref r) self ∧ Rep mg A H v1 d1 ∧ Rep mg A H v2 d2 ∧ G self d1 d2 = some t ∧ ts.length < szL ∧ ∀ H1 tv, Same H H1 → Rep mg A H1 tv t → Q .non (upd H1 L (.lst (ts ++ [tv])))
end PV

namespace PV
variable [LT] [RT]
open PySem PySem.Spec PyProof.Rows L2
structure RW (mg : Str → Option Value) (A : Addr → Prop) (H : Hp) (r L : Addr) (sp pts : D) (rows : List D) : Prop where
  ex : ∃ (C dx : Addr) (vs vp : V), H r = some (.ins C dx [("space", vs), ("points", vp), ("rows", .ref L)]) ∧ mg "Rows" = some (.ref C) ∧ Rep mg A H vs sp ∧ Rep mg A H vp pts
  ls : ∃ ts : List V, H L = some (.lst ts) ∧ Reps mg A H ts rows ∧ ∀ t ∈ ts, ∃ q, t = V.ref q
  nr : ¬ A r
  nl : ¬ A L
section
variable {mg : Str → Option Value} {A : Addr → Prop} {H H1 : Hp} {r L : Addr} {sp pts : D} {rows : List D}
theorem RW.rep (w : RW mg A H r L sp pts rows) : Rep mg (fun a => A a ∨ a = r ∨ a = L) H (.ref r) (insR sp pts rows) := by
  obtain ⟨C, dx, vs, vp, h1, h2, h3, h4⟩ := w.ex
  obtain ⟨ts, h5, h6, _⟩ := w.ls
  have up : ∀ a, A a → A a ∨ a = r ∨ a = L := fun a h => .inl h
  have : Rep mg (fun a => A a ∨ a = r ∨ a = L) H (.ref r) (.ins "Rows" (([("space", vs), ("points", vp), ("rows", .ref L)] : List (Str × V)).map (·.1)) [sp, pts, .lst rows]) :=
    .ins (.inr (.inl rfl)) h1 h2 (.cons (h3.mono up keepRefl) (.cons (h4.mono up keepRefl) (.cons (.lst (.inr (.inr rfl)) h5 (h6.mono up keepRefl)) .nil)))
  exact this
theorem RW.heap (w : RW mg A H r L sp pts rows) (s : Same H H1) : RW mg (grown A H) H1 r L sp pts rows := by
  obtain ⟨C, dx, vs, vp, h1, h2, h3, h4⟩ := w.ex
  obtain ⟨ts, h5, h6, h7⟩ := w.ls
  refine ⟨⟨C, dx, vs, vp, s _ _ h1, h2, (h3.same s).mono (fun a h => .inl h) keepRefl, (h4.same s).mono (fun a h => .inl h) keepRefl⟩, ⟨ts, s _ _ h5, (h6.same s).mono (fun a h => .inl h) keepRefl, h7⟩, fun h => ?_, fun h => ?_⟩
  · rcases h with h | h
    · exact w.nr h
    · rw [h1] at h; cases h
  · rcases h with h | h
    · exact w.nl h
    · rw [h5] at h; cases h
end
def spTk (mg : Str → Option Value) (G : D → D → Option (D × Option D)) : Sp := fun vs H Q _ => ∃ (A : Addr → Prop) (r L : Addr) (sp pts : D) (rows : List D) (v1 : V) (d1 res : D) (ro : Option D), vs = [.ref r, v1] ∧ (∀ a, H a = none → A a) ∧ LamX.Tabs LT.T H ∧
  RW mg A H r L sp pts rows ∧ Rep mg A H v1 d1 ∧ G (insR sp pts rows) d1 = some (res, ro) ∧ rows.length < szL ∧
  ∀ v H', SameN L H H' → (∀ b, H' b = none → H b = none) → Keep A H H' → RW mg A H' r L sp pts (rows ++ ro.toList) → Rep mg A H' v res → Q v H'
section
variable {P : Program} {w : World} {K : PySem.W.Frag} {mg : Str → Option Value} {base : Heap}
structure TakeOk (P : Program) (w : World) (K : PySem.W.Frag) (mg : Str → Option Value) (base : Heap) (k : Nat) (G : D → D → Option (D × Option D)) : Prop where
  ex : ∃ C f fd ps, FnOk P w K mg base CX0 k f fd ps (spTk mg G) ∧ mg "Rows" = some (.ref C) ∧ Cls K C ∧ Meth K C "take" f ∧ Binds K fd ps []
structure KeepOk (P : Program) (w : World) (K : PySem.W.Frag) (mg : Str → Option Value) (base : Heap) (k : Nat) (G : D → D → D → Option D) : Prop where
  ex : ∃ C f fd ps, FnOk P w K mg base CX0 k f fd ps (spKp mg G) ∧ mg "Rows" = some (.ref C) ∧ Cls K C ∧ Meth K C "keep" f ∧ Binds K fd ps []
end
end PV

namespace PV
variable [LT] [RT]
open PySem PySem.Spec PyProof.Rows L2
def spRI (mg : Str → Option Value) : Sp := fun vs H Q _ => ∃ (x dx C : Addr) (v1 v2 : V), vs = [.ref x, v1, v2] ∧ H x = some (.ins C dx []) ∧ mg "Rows" = some (.ref C) ∧
  ∀ L H', SameX x H H' → H L = none → L ≠ x → H' L = some (.lst []) → H' x = some (.ins C dx [("space", v1), ("points", v2), ("rows", .ref L)]) → Q .non H'
section
variable {P : Program} {w : World} {K : PySem.W.Frag} {mg : Str → Option Value} {base : Heap}
structure RMakeOk (P : Program) (w : World) (K : PySem.W.Frag) (mg : Str → Option Value) (base : Heap) (k : Nat) : Prop where
  ex : ∃ C f fd ps, FnOk P w K mg base CX0 k f fd ps (spRI mg) ∧ mg "Rows" = some (.ref C) ∧ Mk K C f ∧ Binds K fd ps []
end
structure OL (mg : Str → Option Value) (A : Addr → Prop) (σ : L2.St) (H : Hp) (i : Nat) (a : Addr) (ds : List D) : Prop where
  s : σ[i]? = some (some (.ref a))
  h : ∃ xs, H a = some (.lst xs) ∧ Reps mg A H xs ds
  na : ¬ A a
section
variable {K : PySem.W.Frag} {mg : Str → Option Value} {A : Addr → Prop} {σ : L2.St} {H H1 : Hp} {i : Nat} {a : Addr} {ds : List D} {r L : Addr} {sp pts : D} {rows : List D} {env : DEnv}
theorem OL.heap (o : OL mg A σ H i a ds) (s : Same H H1) : OL mg A σ H1 i a ds := by
  obtain ⟨xs, h1, h2⟩ := o.h
  exact ⟨o.s, ⟨xs, s _ _ h1, h2.same s⟩, o.na⟩
theorem OL.set (o : OL mg A σ H i a ds) {j : Nat} {v : V} (hj : j ≠ i) : OL mg A (σ.set j (some v)) H i a ds := ⟨by rw [List.getElem?_set_ne hj]; exact o.s, o.h, o.na⟩
theorem OL.keep (o : OL mg A σ H i a ds) (k : Keep A H H1) (h : ∀ xs, H a = some (.lst xs) → H1 a = some (.lst xs)) : OL mg A σ H1 i a ds := by
  obtain ⟨xs, h1, h2⟩ := o.h
  exact ⟨o.s, ⟨xs, h _ h1, h2.mono (fun _ z => z) k⟩, o.na⟩
theorem RW.same (w : RW mg A H r L sp pts rows) (s : Same H H1) : RW mg A H1 r L sp pts rows := by
  obtain ⟨C, dx, vs, vp, h1, h2, h3, h4⟩ := w.ex
  obtain ⟨ts, h5, h6, h7⟩ := w.ls
  exact ⟨⟨C, dx, vs, vp, s _ _ h1, h2, h3.same s, h4.same s⟩, ⟨ts, s _ _ h5, h6.same s, h7⟩, w.nr, w.nl⟩
theorem RW.put (w : RW mg A H r L sp pts rows) {b : Addr} {ys : List V} {o' : HO} (hb : ¬ A b) (hH : H b = some (.lst ys)) (hL : L ≠ b) : RW mg A (upd H b o') r L sp pts rows := by
  obtain ⟨C, dx, vs, vp, h1, h2, h3, h4⟩ := w.ex
  obtain ⟨ts, h5, h6, h7⟩ := w.ls
  have k : Keep A H (upd H b o') := keep_out hb hH
  have hr : r ≠ b := fun z => by subst z; rw [h1] at hH; cases hH
  exact ⟨⟨C, dx, vs, vp, by rw [upd_ne hr]; exact h1, h2, h3.mono (fun _ z => z) k, h4.mono (fun _ z => z) k⟩, ⟨ts, by rw [upd_ne hL]; exact h5, h6.mono (fun _ z => z) k, h7⟩, w.nr, w.nl⟩
theorem OL.put (o : OL mg A σ H i a ds) {b : Addr} {ys : List V} {o' : HO} (hb : ¬ A b) (hH : H b = some (.lst ys)) (hab : a ≠ b) : OL mg A σ (upd H b o') i a ds :=
  o.keep (keep_out hb hH) fun xs h => by rw [upd_ne hab]; exact h
theorem VR.keep (v : VR mg A σ H env) (k : Keep A H H1) : VR mg A σ H1 env := ⟨v.len, fun i d e => let ⟨w, h1, h2⟩ := v.vals i d e; ⟨w, h1, h2.mono (fun _ z => z) k⟩, v.pl⟩
end
structure WS (mg : Str → Option Value) (H0 Hw : Hp) (A0 A : Addr → Prop) (r L k f l : Addr) (sp pts : D) (σ : L2.St) (H : Hp) (env : DEnv) (rows kept found leads : List D) : Prop where
  vr : VR mg A σ H env
  tb : LamX.Tabs LT.T H
  rw : RW mg A H r L sp pts rows
  s3 : σ[3]? = some (some (.ref r))
  ok : OL mg A σ H 4 k kept
  of : OL mg A σ H 5 f found
  ol : OL mg A σ H 6 l leads
  kf : k ≠ f
  kl : k ≠ l
  fl : f ≠ l
  kL : k ≠ L
  fL : f ≠ L
  lL : l ≠ L
  fr : ∀ a, H a = none → A a
  sub : ∀ a, A a → A0 a ∨ H0 a = none
  sm : Same H0 H
  z : H0 r = none ∧ H0 L = none ∧ H0 k = none ∧ H0 f = none ∧ H0 l = none
  kw : Keep A Hw H
  l10 : env.length = 10
section
variable {K : PySem.W.Frag} {mg : Str → Option Value} {H0 Hw : Hp} {A0 A : Addr → Prop} {r L k f l : Addr} {sp pts : D} {σ : L2.St} {H H1 : Hp} {env : DEnv} {rows kept found leads : List D}
theorem WS.heap (w : WS mg H0 Hw A0 A r L k f l sp pts σ H env rows kept found leads) (s : Same H H1) : WS mg H0 Hw A0 A r L k f l sp pts σ H1 env rows kept found leads :=
  ⟨w.vr.keep (Same.keep s), s.tabs w.tb, w.rw.same s, w.s3, w.ok.heap s, w.of.heap s, w.ol.heap s, w.kf, w.kl, w.fl, w.kL, w.fL, w.lL, fun a h => w.fr a (s.dom a h), w.sub, w.sm.trans s, w.z, w.kw.trans (Same.keep s), w.l10⟩
theorem WS.set (w : WS mg H0 Hw A0 A r L k f l sp pts σ H env rows kept found leads) {i : Nat} {v : V} {d : D} (hi : i = 7 ∨ i = 8) (rv : Rep mg A H v d) : WS mg H0 Hw A0 A r L k f l sp pts (σ.set i (some v)) H (env.set i (.val d)) rows kept found leads :=
  ⟨w.vr.set rv, w.tb, w.rw, by rw [List.getElem?_set_ne (by omega)]; exact w.s3, w.ok.set (by omega), w.of.set (by omega), w.ol.set (by omega), w.kf, w.kl, w.fl, w.kL, w.fL, w.lL, w.fr, w.sub, w.sm, w.z, w.kw, by rw [List.length_set]; exact w.l10⟩
theorem WS.appK {D' : Ends} (w : WS mg H0 Hw A0 A r L k f l sp pts σ H env rows kept found leads) {j : Nat} {d : D} (hj : env[j]? = some (.val d)) (hz : kept.length < szL) (q : ∀ H', WS mg H0 Hw A0 A r L k f l sp pts σ H' env rows (kept ++ [d]) found leads → D'.nx σ H') :
    (tDrop (tBM K "list" rAppend (tVar 4) (tCons (tVar j) tNil))) D' σ H := by
  obtain ⟨v, h1, h2⟩ := w.vr.vals j d hj
  obtain ⟨xs, hH, rs⟩ := w.ok.h
  have kp : Keep A H (upd H k (.lst (xs ++ [v]))) := keep_out w.ok.na hH
  refine ⟨.ref k, w.ok.s, .inl ⟨rfl, xs, .inl (.inl hH)⟩, v, h1, k, xs, v, rfl, rfl, hH, by rw [rs.len]; exact Nat.lt_of_lt_of_le hz (szL_ok (Nat.le_refl _)), ?_⟩
  refine q _ ⟨w.vr.keep kp, fun p hp => tabS_upd hH trivial (w.tb p hp), w.rw.put w.ok.na hH (Ne.symm w.kL), w.s3, ⟨w.ok.s, ⟨_, upd_same, ?_⟩, w.ok.na⟩, w.of.put w.ok.na hH (Ne.symm w.kf), w.ol.put w.ok.na hH (Ne.symm w.kl), w.kf, w.kl, w.fl, w.kL, w.fL, w.lL, fun a h => w.fr a (dom_upd h), w.sub, w.sm.put w.z.2.2.1 hH trivial, w.z, w.kw.trans kp, w.l10⟩
  exact (rs.mono (fun _ h => h) kp).append (.cons (h2.mono (fun _ h => h) kp) .nil)
end
end PV

namespace PV
variable [LT] [RT]
open PySem PySem.Spec PyProof.Rows L2
end PV

namespace PV
variable [LT] [RT]
open PySem PySem.Spec PyProof.Rows L2
end PV

namespace PV
variable [LT] [RT]
open PySem PySem.Spec PyProof.Rows L2
theorem intsAre_get : ∀ {us : List Value} {ns : List Int} {i : Nat} {v : Value}, IntsAre us ns → us[i]? = some v → ∃ n t, v = .int n t ∧ ns[i]? = some n
  | _, _, _, _, .nil, e => by simp at e
  | _, _, 0, _, .cons n k t, e => by
    simp only [List.getElem?_cons_zero, Option.some.injEq] at e
    exact ⟨n, k, e.symm, rfl⟩
  | _, _, i + 1, _, .cons n k t, e => by
    simp only [List.getElem?_cons_succ] at e ⊢
    exact intsAre_get t e
theorem intsAre_len : ∀ {us : List Value} {ns : List Int}, IntsAre us ns → us.length = ns.length
  | _, _, .nil => rfl
  | _, _, .cons _ _ t => congrArg (· + 1) (intsAre_len t)
theorem truth_intsA {prog : Program} {w : World} {A : Around} {us : List Value} {ns : List Int} (h : IntsAre us ns) : TruthOf prog w A (fun i v => us.toArray[i]? = some v) (fun i => ns.getD i 0 != 0) := fun i v s Q E hv hq => by
  have hv' : us[i]? = some v := by simpa using hv
  obtain ⟨n, t, rfl, hn⟩ := intsAre_get h hv'
  have hg : ns.getD i 0 = n := by rw [List.getD_eq_getElem?_getD, hn]; rfl
  have hq' : Q (ns.getD i 0 != 0) s := hq
  rw [hg] at hq'
  exact PySem.P.truthy_int hq'
theorem any_rangeI : ∀ ns : List Int, (List.range ns.length).any (fun i => ns.getD i 0 != 0) = ns.any fun n => n != 0
  | [] => rfl
  | n :: ns => by
    rw [List.length_cons, List.range_succ_eq_map, List.any_cons, List.any_map, List.any_cons, ← any_rangeI ns]
    rfl
end PV

namespace PV
variable [LT] [RT]
open PySem PySem.Spec PyProof.Rows L2
theorem lc_walk {K : PySem.W.Frag} {mg : Str → Option Value} {B : Bs} {O : Nat → Option Addr} {env : DEnv} {J : It} {xs ys : List PV.D} {g : Tg} {dt : Tx} {tt : TT} {te : Ex} {ws : List Nat} {σ : L2.St} {H1 : Hp} {Q : VK} (hw : ∀ i ∈ g.slots, i ∈ ws)
    (htt : ∀ B O σ env b H Q, ERel K mg B O σ H env → dt env = some b → (∀ H', Same H H' → Q b H') → tt σ H Q) (rl1 : ERel K mg B O σ H1 env) (hz : xs.length ≤ szL) (hno : noOwn env ws = true) (hr : lcRun (gD g) dt te (PV.wip env ws) xs = some ys)
    (wk : WalksS mg (fun a => Lv B O false a ∧ ∃ o, H1 a = some o) J xs H1) (q : ∀ p H', Same H1 H' → H1 p = none → Own mg (fun a => Lv B O false a ∧ a ≠ p) H' p (.lst ys) → Q (.ref p) H') :
    tLc (fun _ _ R => R J H1) (tgR K g) tt (tE K mg false te) ws σ H1 Q := by
  intro D hD
  have hws : ∀ i ∈ ws, i < σ.length := fun i hi => by
    have z := List.all_eq_true.mp hno i hi
    rw [← rl1.len]
    cases e : (env[i]? : Option DSlot) with
    | none => rw [e] at z; cases z
    | some x => exact (List.getElem?_eq_some_iff.mp e).1
  have noO : ∀ i ∈ ws, O i = none := fun i hi => rl1.noO hno hi (by rw [rl1.len]; exact hws i hi)
  obtain ⟨n, hnl, rm, sub⟩ := (rl1.wip ws hno).more (o := .lst []) hD trivial
  have hOn : putO O n D n = some D := by unfold putO; rw [if_pos rfl]
  have hlen : (PV.wip env ws).length = σ.length := by rw [wip_len]; exact rl1.len
  have noP : ∀ i ∈ g.slots, putO O n D i = none := fun i hi => by
    have := hws i (hw i hi)
    unfold putO
    rw [if_neg (by omega)]
    exact noO i (hw i hi)
  refine ⟨fun i m H' => m = xs.length - i ∧ i ≤ xs.length ∧ ∃ vs ys1 ys2, H' D = some (.lst vs) ∧ ERel K mg B (putO O n D) (wipe σ ws) H' (PV.wip env ws) ∧ Reps mg (Lv B (putO O n D) false) H' vs ys1 ∧ ys1.length ≤ i ∧ lcRun (gD g) dt te (PV.wip env ws) (xs.drop i) = some ys2 ∧ ys = ys1 ++ ys2 ∧ Same H1 H',
    ⟨xs.length, by simp, Nat.zero_le _, [], [], ys, upd_same, rm, .nil, Nat.le_refl _, by simpa using hr, rfl, same_upd hD⟩, ?_⟩
  rintro i m H' ⟨rfl, hi', vs, ys1, ys2, hHD, rl', rs, hly, hrun, hys, sm⟩
  by_cases hlt : i < xs.length
  · have hxi : xs[i]? = some xs[i] := List.getElem?_eq_getElem hlt
    obtain ⟨go, yl⟩ := (wk i H' sm).1 _ hxi
    rw [List.drop_eq_getElem_cons hlt] at hrun
    unfold lcRun at hrun
    obtain ⟨e1, he1, hrun⟩ := bnd hrun
    obtain ⟨c, hc, hrun⟩ := bnd hrun
    refine .inr ⟨go, fun H'' => ∃ vs ys1 ys2, H'' D = some (.lst vs) ∧ ERel K mg B (putO O n D) (wipe σ ws) H'' (PV.wip env ws) ∧ Reps mg (Lv B (putO O n D) false) H'' vs ys1 ∧ ys1.length ≤ i + 1 ∧ lcRun (gD g) dt te (PV.wip env ws) (xs.drop (i + 1)) = some ys2 ∧ ys = ys1 ++ ys2 ∧ Same H1 H'',
      fun H'' z => ⟨xs.length - (i + 1), by omega, rfl, hlt, z⟩, fun v H3 y => ?_⟩
    obtain ⟨s3, rv⟩ := yl v H3 y
    have rl3 := rl'.heap s3
    have rv' : Rep mg (Lv B (putO O n D) false) H3 v xs[i] := rv.mono (fun a ha => ⟨ha.1.1, .inr fun j z => by
      unfold putO at z
      split at z
      · cases z
        obtain ⟨o, ho⟩ := ha.2
        rw [hD] at ho; cases ho
      · exact ha.1.2.elim (fun z => Bool.noConfusion z) fun w => w j z⟩) keepRefl
    refine tgR_oks g rl3 noP rv' he1 fun σ4 r4 w4 => ⟨by rw [w4 ws hw]; exact wipe_idem, ?_⟩
    refine htt B _ σ4 e1 c H3 _ r4 hc fun H5 s5 => ?_
    cases c with
    | true =>
      obtain ⟨yv, hyv, hrun⟩ := bnd hrun
      obtain ⟨ys', hys', hrun⟩ := bnd hrun
      cases hrun
      refine iteT ⟨B, _, e1, yv, r4.heap s5, hyv, fun w H6 s6 rw6 => ?_⟩
      have s36 := s3.trans (s5.trans s6)
      have hD6 : H6 D = some (.lst vs) := s36 _ _ hHD
      have rl6 := rl'.heap s36
      refine ⟨vs, hD6, ?_, vs ++ [w], ys1 ++ [yv], ys', upd_same, rl6.poke hOn (by omega) trivial, ?_, by simp; omega, hys', by rw [hys]; simp, ?_⟩
      · have : vs.length ≤ i := by rw [rs.len]; exact hly
        have hz' := szL_ok hz
        omega
      · have k := keep_write (o' := .lst (vs ++ [w])) rl6 hOn
        exact ((rs.same s36).mono (fun _ z => z) k).append (.cons (rw6.mono (fun _ z => z) k) .nil)
      · exact (sm.trans s36).put hD hD6 trivial
    | false =>
      have s35 := s3.trans s5
      exact iteF ⟨vs, ys1, ys2, s35 _ _ hHD, rl'.heap s35, rs.same s35, by omega, hrun, hys, sm.trans s35⟩
  · have hn : xs[i]? = none := List.getElem?_eq_none (by omega)
    have hdr : xs.drop i = [] := List.drop_eq_nil_of_le (by omega)
    rw [hdr] at hrun
    unfold lcRun at hrun
    cases hrun
    rw [List.append_nil] at hys
    subst hys
    refine .inl ⟨(wk i H' sm).2 hn, ?_⟩
    refine q D H' sm hD (.lst hHD (rs.mono (fun a ha => ⟨sub false a ha, fun z => ?_⟩) keepRefl))
    subst z
    exact ha.2.elim (fun z => Bool.noConfusion z) fun w => w n hOn
section
variable {X : Cx}
theorem walksS_own {mg : Str → Option Value} {K : PySem.W.Frag} {A : Addr → Prop} {H1 : Hp} {a : Addr} {vs : List V} {ds : List PV.D} (h : H1 a = some (.lst vs)) (r : Reps mg A H1 vs ds) : WalksS mg (fun b => A b ∧ ∃ o, H1 b = some o) (Itl K a) ds H1 := by
  intro i H s
  have hq : SqL K H a vs := .inl (.inl (s _ _ h))
  refine ⟨fun x e => ?_, fun e => ?_⟩
  · obtain ⟨v, h1, h2⟩ := (r.keepT (B := fun b => A b ∧ ∃ o, H1 b = some o) fun b hb o => ⟨hb, o⟩).get e
    refine ⟨⟨vs, v, hq, h1⟩, fun u H' y => ?_⟩
    obtain ⟨y1, y2⟩ := y
    subst y1
    have z := y2 vs hq
    rw [h1] at z
    cases z
    exact ⟨Same.refl _, h2.same s⟩
  · exact ⟨vs, hq, by rw [r.len]; exact List.getElem?_eq_none_iff.mp e⟩
theorem sn_lcO (i : Nat) {x : Str} {elt tg : Expr} {scope : Scope} {own : List (Str × Nat)} {px pos : Pos} {g : Tg} {te : Ex} (hc : X.calm = true) (hN : X.N.Nodup) (ok : BlkOk X.N X.env.scope scope own)
    (hg : ∀ (s : Shared) (H : Hp) (C : Addr) (cl : List (Str × Addr)) (fp : List Addr), PT1 (X.blk s H scope (compEnvC scope cl C X.env) fp) tg g)
    (he : ∀ (s : Shared) (H : Hp) (C : Addr) (cl : List (Str × Addr)) (fp : List Addr), SE (X.blk s H scope (compEnvC scope cl C X.env) fp) false elt te)
    (hNx : X.N[i]? = some x := by rfl) (hvx : Vis X.env.scope x := by first | exact Or.inl rfl | exact Or.inr (Or.inl rfl) | exact Or.inr (Or.inr rfl)) (hdx : (x == ("__debug__" : Str)) = false := by decide) (hcdx : (x == ("__classdict__" : Str)) = false := by decide)
    (hw : ∀ i ∈ g.slots, i ∈ own.map (·.2) := by decide) (hs : ∀ y, foldedSetIterable (.Name x px) X.env y = pure y := by intro _; rfl) {ws : List Nat} (hws : own.map (·.2) = ws := by rfl) :
    SN X (.ListComp elt [⟨tg, .Name x px, [], 0⟩] scope pos) (lcE (iLst (ovar i)) g yes te ws) := by
  subst hws
  refine (pe_lc (te := tE X.K X.mg false te) hc hN (pi_list (pe_var hNx hvx hdx hcdx)) ok (g := tgR X.K g) hg (fun _ _ _ _ _ => pts_nil) he hs).weak fun σ H Q ⟨B, O, env, d, rl, e, q⟩ => ?_
  obtain ⟨xs, hx, e⟩ := bnd e
  split at e
  · rename_i hz
    obtain ⟨ys, hr, e⟩ := bnd e
    cases e
    obtain ⟨y, hy, hx⟩ := bnd hx
    unfold ovar at hy
    split at hy
    · rename_i y' hi
      cases hy
      split at hx
      · cases hx
        obtain ⟨p, h1, h2, h3, h4⟩ := rl.owns i _ hi
        cases h4 with
        | lst hH rs =>
          exact ⟨.ref p, h2, p, rfl, ⟨_, .inl (.inl hH)⟩, lc_walk hw (fun B O σ env b H Q _ e q => by cases e; exact q H (Same.refl H)) rl hz.1 hz.2 hr (walksS_own hH rs) q⟩
      · cases hx
    · cases hy
  · cases e
end
end PV

namespace PV
variable [LT] [RT]
open PySem PySem.Spec PyProof.Rows L2
def spW (mg : Str → Option Value) (f : Fn) (j : Nat) : Sp := fun vs H Q _ => ∃ A ds x kept, Fr A H ∧ Reps mg A H vs ds ∧ f ds = some x ∧ getD x (.int (j : Int)) = some (.lst kept) ∧
  ∀ t us p H', Same H H' → H p = none → H' t = some (.tup us) → us[j]? = some (.ref p) → Own mg (fun a => A a ∧ a ≠ p) H' p (.lst kept) → Q (.ref t) H'
section
variable {P : Program} {w : World} {K : PySem.W.Frag} {mg : Str → Option Value} {base : Heap}
structure CallW (P : Program) (w : World) (K : PySem.W.Frag) (mg : Str → Option Value) (base : Heap) (k : Nat) (x : Str) (F : Fn) (j : Nat) : Prop where
  ex : ∃ f fd ps, FnOk P w K mg base CX0 k f fd ps (spW mg F j) ∧ mg x = some (.ref f) ∧ PySem.W.keepIn K (.ref f) = true ∧ Binds K fd ps []
end
end PV

namespace PV
variable [LT] [RT]
open PySem PySem.Spec PyProof.Rows L2
end PV

namespace PV
variable [LT] [RT]
open PySem PySem.Spec PyProof.Rows L2
def spCp3 (mg : Str → Option Value) (c f g h : Str) : Sp := fun vs H Q _ => ∃ (x dx C p : Addr) (u t : V) (ws : List V), vs = [.ref x, u, .ref p, t] ∧ H x = some (.ins C dx []) ∧ mg c = some (.ref C) ∧ p ≠ x ∧ H p = some (.lst ws) ∧
  ∀ q, q ≠ x → H q = none → Q .non (upd (upd (upd (upd H x (.ins C dx [(f, u)])) q (.lst ws)) x (.ins C dx [(f, u), (g, .ref q)])) x (.ins C dx [(f, u), (g, .ref q), (h, t)]))
structure CopyOk3 (P : Program) (w : World) (K : PySem.W.Frag) (mg : Str → Option Value) (base : Heap) (k : Nat) (c f g h : Str) : Prop where
  ex : ∃ C fa fd ps, FnOk P w K mg base CX0 k fa fd ps (spCp3 mg c f g h) ∧ mg c = some (.ref C) ∧ Mk K C fa ∧ Binds K fd ps []
end PV

namespace PV
variable [LT] [RT]
open PySem PySem.Spec PyProof.Rows L2

end PV

namespace PV
variable [LT] [RT]
open PySem PySem.Spec PyProof.Rows L2
end PV

namespace PV
variable [LT] [RT]
open PySem PySem.Spec PyProof.Rows L2
end PV

namespace PV
variable [LT] [RT]
open PySem PySem.Spec PyProof.Rows L2
end PV

namespace PV
open PySem PySem.Spec PyProof.Rows L2
def topS (i : Nat) : Stmt := PySem.Challenge.pw_standingpowers_k12_texts_of_systems.main.body.getD i (.Pass ⟨0, 0, 0, 0⟩)
def d0 : He.DefD := ⟨("_law_cell", none), "_law_cell", "_law_cell", defArgs (topS 41), defBody (topS 41), defScope (topS 41), [], []⟩
def d1 : He.DefD := ⟨("_law_shape", none), "_law_shape", "_law_shape", defArgs (topS 43), defBody (topS 43), defScope (topS 43), [], []⟩
def d2 : He.DefD := ⟨("_law_names", none), "_law_names", "_law_names", defArgs (topS 44), defBody (topS 44), defScope (topS 44), [], []⟩
def d3 : He.DefD := ⟨("_law_digits", none), "_law_digits", "_law_digits", defArgs (topS 42), defBody (topS 42), defScope (topS 42), [], []⟩
def d4 : He.DefD := ⟨("_law_take", none), "_law_take", "_law_take", defArgs (topS 54), defBody (topS 54), defScope (topS 54), [], []⟩
def d5 : He.DefD := ⟨("_law_gap", none), "_law_gap", "_law_gap", defArgs (topS 56), defBody (topS 56), defScope (topS 56), [], []⟩
def d6 : He.DefD := ⟨("_law_made", none), "_law_made", "_law_made", defArgs (topS 45), defBody (topS 45), defScope (topS 45), [], []⟩
def d7 : He.DefD := ⟨("_law_constant", none), "_law_constant", "_law_constant", defArgs (topS 52), defBody (topS 52), defScope (topS 52), [], []⟩
def d8 : He.DefD := ⟨("_law_unknown", none), "_law_unknown", "_law_unknown", defArgs (topS 53), defBody (topS 53), defScope (topS 53), [], []⟩
def d9 : He.DefD := ⟨("_law_base", none), "_law_base", "_law_base", defArgs (topS 59), defBody (topS 59), defScope (topS 59), [], []⟩
def d10 : He.DefD := ⟨("_law_lessened", none), "_law_lessened", "_law_lessened", defArgs (topS 49), defBody (topS 49), defScope (topS 49), [], []⟩
def d11 : He.DefD := ⟨("_law_times", none), "_law_times", "_law_times", defArgs (topS 50), defBody (topS 50), defScope (topS 50), [], []⟩
def d12 : He.DefD := ⟨("_law_raised", none), "_law_raised", "_law_raised", defArgs (topS 51), defBody (topS 51), defScope (topS 51), [], []⟩
def d13 : He.DefD := ⟨("_law_factor", none), "_law_factor", "_law_factor", defArgs (topS 58), defBody (topS 58), defScope (topS 58), [], []⟩
def d14 : He.DefD := ⟨("_law_product", none), "_law_product", "_law_product", defArgs (topS 57), defBody (topS 57), defScope (topS 57), [], []⟩
def d15 : He.DefD := ⟨("_law_scaled", none), "_law_scaled", "_law_scaled", defArgs (topS 47), defBody (topS 47), defScope (topS 47), [], []⟩
def d16 : He.DefD := ⟨("_law_plus", none), "_law_plus", "_law_plus", defArgs (topS 46), defBody (topS 46), defScope (topS 46), [], []⟩
def d17 : He.DefD := ⟨("_law_sum", none), "_law_sum", "_law_sum", defArgs (topS 55), defBody (topS 55), defScope (topS 55), [], []⟩
def d18 : He.DefD := ⟨("_law_expression", none), "_law_expression", "_law_expression", defArgs (topS 60), defBody (topS 60), defScope (topS 60), [], []⟩
def d19 : He.DefD := ⟨("_law_minus", none), "_law_minus", "_law_minus", defArgs (topS 48), defBody (topS 48), defScope (topS 48), [], []⟩
def d20 : He.DefD := ⟨("is_name", none), "is_name", "is_name", defArgs (topS 14), defBody (topS 14), defScope (topS 14), [], []⟩
def d21 : He.DefD := ⟨("Space", some "__init__"), "__init__", "Space.__init__", defArgs (inClass (topS 18) 0), defBody (inClass (topS 18) 0), defScope (inClass (topS 18) 0), [], []⟩
def d22 : He.DefD := ⟨("read_space", none), "read_space", "read_space", defArgs (topS 36), defBody (topS 36), defScope (topS 36), [], []⟩
def d23 : He.DefD := ⟨("Reader", some "__init__"), "__init__", "Reader.__init__", defArgs (inClass (topS 33) 0), defBody (inClass (topS 33) 0), defScope (inClass (topS 33) 0), [], []⟩
def d24 : He.DefD := ⟨("Reader", some "next_char"), "next_char", "Reader.next_char", defArgs (inClass (topS 33) 2), defBody (inClass (topS 33) 2), defScope (inClass (topS 33) 2), [], []⟩
def d25 : He.DefD := ⟨("Reader", some "accept"), "accept", "Reader.accept", defArgs (inClass (topS 33) 3), defBody (inClass (topS 33) 3), defScope (inClass (topS 33) 3), [], []⟩
def d26 : He.DefD := ⟨("Reader", some "run"), "run", "Reader.run", defArgs (inClass (topS 33) 4), defBody (inClass (topS 33) 4), defScope (inClass (topS 33) 4), [], []⟩
def d27 : He.DefD := ⟨("Reader", some "number"), "number", "Reader.number", defArgs (inClass (topS 33) 5), defBody (inClass (topS 33) 5), defScope (inClass (topS 33) 5), [], []⟩
def d28 : He.DefD := ⟨("Space", some "zero"), "zero", "Space.zero", defArgs (inClass (topS 18) 4), defBody (inClass (topS 18) 4), defScope (inClass (topS 18) 4), [], []⟩
def d29 : He.DefD := ⟨("from_numbers", none), "from_numbers", "from_numbers", defArgs (topS 20), defBody (topS 20), defScope (topS 20), [], []⟩
def d30 : He.DefD := ⟨("constant", none), "constant", "constant", defArgs (topS 21), defBody (topS 21), defScope (topS 21), [], []⟩
def d31 : He.DefD := ⟨("Reader", some "name"), "name", "Reader.name", defArgs (inClass (topS 33) 6), defBody (inClass (topS 33) 6), defScope (inClass (topS 33) 6), [], []⟩
def d32 : He.DefD := ⟨("unknown", none), "unknown", "unknown", defArgs (topS 22), defBody (topS 22), defScope (topS 22), [], []⟩
def d33 : He.DefD := ⟨("Reader", some "base"), "base", "Reader.base", defArgs (inClass (topS 33) 7), defBody (inClass (topS 33) 7), defScope (inClass (topS 33) 7), [], []⟩
def d34 : He.DefD := ⟨("lessened", none), "lessened", "lessened", defArgs (topS 26), defBody (topS 26), defScope (topS 26), [], []⟩
def d35 : He.DefD := ⟨("times", none), "times", "times", defArgs (topS 27), defBody (topS 27), defScope (topS 27), [], []⟩
def d36 : He.DefD := ⟨("raised", none), "raised", "raised", defArgs (topS 28), defBody (topS 28), defScope (topS 28), [], []⟩
def d37 : He.DefD := ⟨("Reader", some "factor"), "factor", "Reader.factor", defArgs (inClass (topS 33) 8), defBody (inClass (topS 33) 8), defScope (inClass (topS 33) 8), [], []⟩
def d38 : He.DefD := ⟨("Reader", some "product"), "product", "Reader.product", defArgs (inClass (topS 33) 9), defBody (inClass (topS 33) 9), defScope (inClass (topS 33) 9), [], []⟩
def d39 : He.DefD := ⟨("scaled", none), "scaled", "scaled", defArgs (topS 24), defBody (topS 24), defScope (topS 24), [], []⟩
def d40 : He.DefD := ⟨("plus", none), "plus", "plus", defArgs (topS 23), defBody (topS 23), defScope (topS 23), [], []⟩
def d41 : He.DefD := ⟨("minus", none), "minus", "minus", defArgs (topS 25), defBody (topS 25), defScope (topS 25), [], []⟩
def d42 : He.DefD := ⟨("Reader", some "terms"), "terms", "Reader.terms", defArgs (inClass (topS 33) 10), defBody (inClass (topS 33) 10), defScope (inClass (topS 33) 10), [], []⟩
def d43 : He.DefD := ⟨("Reader", some "whole"), "whole", "Reader.whole", defArgs (inClass (topS 33) 11), defBody (inClass (topS 33) 11), defScope (inClass (topS 33) 11), [], []⟩
def d44 : He.DefD := ⟨("read_equation", none), "read_equation", "read_equation", defArgs (topS 37), defBody (topS 37), defScope (topS 37), [], []⟩
def d45 : He.DefD := ⟨("System", some "__init__"), "__init__", "System.__init__", defArgs (inClass (topS 30) 0), defBody (inClass (topS 30) 0), defScope (inClass (topS 30) 0), [], []⟩
def d46 : He.DefD := ⟨("read_system", none), "read_system", "read_system", defArgs (topS 38), defBody (topS 38), defScope (topS 38), [], []⟩
def d47 : He.DefD := ⟨("_law_written", none), "_law_written", "_law_written", defArgs (topS 61), defBody (topS 61), defScope (topS 61), [], []⟩
def d48 : He.DefD := ⟨("write_term", none), "write_term", "write_term", defArgs (topS 34), defBody (topS 34), defScope (topS 34), [], []⟩
def d49 : He.DefD := ⟨("write_polynomial", none), "write_polynomial", "write_polynomial", defArgs (topS 35), defBody (topS 35), defScope (topS 35), [], []⟩
def d50 : He.DefD := ⟨("write_system", none), "write_system", "write_system", defArgs (topS 39), defBody (topS 39), defScope (topS 39), [], []⟩
def d51 : He.DefD := ⟨("law", none), "law", "law", defArgs (topS 62), defBody (topS 62), defScope (topS 62), [], []⟩
def fn : List He.DefD := [d0, d1, d2, d3, d4, d5, d6, d7, d8, d9, d10, d11, d12, d13, d14, d15, d16, d17, d18, d19, d20, d21, d22, d23, d24, d25, d26, d27, d28, d29, d30, d31, d32, d33, d34, d35, d36, d37, d38, d39, d40, d41, d42, d43, d44, d45, d46, d47, d48, d49, d50, d51]
def fa0 : List He.Fa := [.free "str", .free "int", .free "range", .free "isinstance", .glo "System", .cls "System", .noat "System" "space", .glo "Space", .cls "Space", .noat "Space" "prime", .noat "Space" "names", .noat "System" "equations", .free "len", .free "sorted", .free "tuple", .free "enumerate"]
def fa1 : List He.Fa := [.glo "InvalidSpace", .glo "PRIMES", .int "MOST_NAMES" 8, .free "all", .free "set", .glo "MOST_OF_PRIME", .free "list", .noat "Space" "count", .int "LONGEST_NAME" 12, .str "LETTERS" "abcdefghijklmnopqrstuvwxyz", .str "DIGITS" "0123456789", .glo "Reader", .cls "Reader", .noat "Reader" "space", .noat "Reader" "text", .noat "Reader" "line"]
def fa2 : List He.Fa := [.noat "Reader" "at", .noat "Reader" "end", .int "MOST_DIGITS" 9, .free "zip", .free "dict", .free "any", .glo "_law_cell", .glo "_law_shape", .glo "_law_names", .glo "_law_digits", .glo "_law_take", .glo "_law_gap", .glo "_law_made", .glo "_law_constant", .glo "_law_unknown", .glo "_law_base"]
def fa3 : List He.Fa := [.glo "_law_lessened", .glo "_law_times", .glo "_law_raised", .glo "_law_factor", .glo "_law_product", .glo "_law_scaled", .glo "_law_plus", .glo "_law_sum", .glo "_law_expression", .glo "_law_minus", .glo "is_name", .mkr "Space", .glo "read_space", .mkr "Reader", .meth "Reader" "next_char", .meth "Reader" "accept"]
def fa4 : List He.Fa := [.meth "Reader" "run", .meth "Reader" "number", .meth "Space" "zero", .glo "from_numbers", .glo "constant", .meth "Reader" "name", .glo "unknown", .meth "Reader" "base", .glo "lessened", .glo "times", .glo "raised", .meth "Reader" "factor", .meth "Reader" "product", .glo "scaled", .glo "plus", .glo "minus"]
def fa5 : List He.Fa := [.meth "Reader" "terms", .meth "Reader" "whole", .glo "read_equation", .mkr "System", .glo "read_system", .glo "_law_written", .glo "write_term", .glo "write_polynomial", .glo "write_system", .glo "law"]
def fa : List He.Fa := fa0 ++ (fa1 ++ (fa2 ++ (fa3 ++ (fa4 ++ (fa5)))))
def exl : List (PySem.W.Frag → Bool) := [isiB "System", tupIB "PRIMES" [2, 3, 5, 7], tabIB "MOST_OF_PRIME" [(2, 8), (3, 5), (5, 3), (7, 2)], noLst]
def loo0 : List PySem.Str := ["_wall", "__name__", "PowersError", "InvalidSpace", "SyntaxFault", "InvalidSystem", "PRIMES", "LETTERS", "DIGITS", "LONGEST_NAME", "MOST_NAMES", "MOST_OF_PRIME", "tuples_of", "is_name", "degree_of", "key_of"]
def loo1 : List PySem.Str := ["ascending", "Space", "from_numbers", "constant", "unknown", "plus", "scaled", "minus", "lessened", "times", "raised", "System", "MOST_DIGITS", "Reader", "write_term", "write_polynomial"]
def loo2 : List PySem.Str := ["read_space", "read_equation", "read_system", "write_system", "_law_cell", "_law_digits", "_law_shape", "_law_names", "_law_made", "_law_plus", "_law_scaled", "_law_minus", "_law_lessened", "_law_times", "_law_raised", "_law_constant"]
def loo3 : List PySem.Str := ["_law_unknown", "_law_take", "_law_sum", "_law_gap", "_law_product", "_law_factor", "_law_base", "_law_expression", "_law_written"]
def loose : List PySem.Str := loo0 ++ loo1 ++ loo2 ++ loo3

end PV

namespace PV
open PySem PySem.Spec PyProof.Rows L2
abbrev R : PySem.W.OpenRow := PySem.W.OpenLaw.row PySem.Challenge.rw_standingpowers_k12_texts_of_systems
abbrev hk : PySem.W.Hook := hookE 4 fa fn exl
def ob (s : PySem.W.SharedT) : He.AlD := obsEG 4 fa fn exl (HandSHeadRun.getT s)
theorem ob_eq (s : PySem.W.SharedT) : ob s = hk.obs s.abs := obsEG_eq (HandSHeadRun.getT_eq s)
theorem runT (w : World) : HandSHeadRun.RunEq R (PySem.W.view R.prog [62]) hk ob 5000 loose (w.withFollow "special-get-raises" true) := by
  intro os
  kernel_rfl
theorem runF (w : World) : HandSHeadRun.RunEq R (PySem.W.view R.prog [62]) hk ob 5000 loose (w.withFollow "special-get-raises" false) := by
  intro os
  kernel_rfl
theorem run (w : World) : HandSHeadRun.RunEq R (PySem.W.view R.prog [62]) hk ob 5000 loose w :=
  PySem.W.byRow2 "special-get-raises" (P := fun w => HandSHeadRun.RunEq R (PySem.W.view R.prog [62]) hk ob 5000 loose w) runF runT w
end PV

namespace PV
variable [LT] [RT]
open PySem PySem.Spec PyProof.Rows L2
end PV

namespace PV
variable [LT] [RT]
open PySem PySem.Spec PyProof.Rows L2
end PV

namespace PV
variable [LT] [RT]
open PySem PySem.Spec PyProof.Rows L2
instance {P : Program} {w : World} {a : Addr} {L : List (Addr × List Int)} : NT (SetTO P w a L) := ⟨fun _ h => nomatch h⟩
end PV

namespace PV
variable [LT] [RT]
open PySem PySem.Spec PyProof.Rows L2
end PV

namespace PV
variable [LT] [RT]
open PySem PySem.Spec PyProof.Rows L2
abbrev Drow := List D × List D
theorem keep_outD {A : Addr → Prop} {H : Hp} {b : Addr} {kvs : List (List Key × V)} {o' : HO} (hb : ¬ A b) (hH : H b = some (.dT kvs)) : Keep A H (upd H b o') := by
  have ne : ∀ {a}, A a → a ≠ b := fun ha z => hb (z ▸ ha)
  refine ⟨fun a u ha _ r => ?_, fun a C dx fs ha e => ?_, fun a xs ha e => ?_, fun a xs e => ?_, fun a ob xs e => ?_⟩
  · rcases r with r | ⟨o, r⟩
    · exact .inl (by rw [upd_ne (ne ha)]; exact r)
    · exact .inr ⟨o, by rw [upd_ne (ne ha)]; exact r⟩
  · rw [upd_ne (ne ha)]; exact e
  · rw [upd_ne (ne ha)]; exact e
  · rw [upd_ne (fun z => by subst z; rw [hH] at e; cases e)]; exact e
  · rw [upd_ne (fun z => by subst z; rw [hH] at e; cases e)]; exact e
structure TD (mg : Str → Option Value) (A : Addr → Prop) (H : Hp) (a : Addr) (bs : List Addr) (rows : List Drow) : Prop where
  ha : H a = some (.lst (bs.map V.ref))
  na : ¬ A a
  nd : bs.Nodup
  nab : a ∉ bs
  len : bs.length = rows.length
  row : ∀ (j : Nat) (b : Addr) (r : Drow), bs[j]? = some b → rows[j]? = some r → ¬ A b ∧ ∃ kvs : List (List Key × V), H b = some (.dT kvs) ∧ Reps mg A H (kvs.map (·.2)) r.2 ∧ r.1 = kvs.map fun p => .tup (p.1.map kD)
section
variable {mg : Str → Option Value} {A : Addr → Prop} {H H1 : Hp} {a : Addr} {bs : List Addr} {rows : List Drow}
theorem TD.heap (t : TD mg A H a bs rows) (s : Same H H1) : TD mg (grown A H) H1 a bs rows := by
  refine ⟨s _ _ t.ha, fun h => ?_, t.nd, t.nab, t.len, fun j b r hb hr => ?_⟩
  · rcases h with h | h
    · exact t.na h
    · rw [t.ha] at h; cases h
  · obtain ⟨h1, kvs, h2, h3, h4⟩ := t.row j b r hb hr
    refine ⟨fun h => ?_, kvs, s _ _ h2, (h3.same s).mono (fun a h => .inl h) keepRefl, h4⟩
    rcases h with h | h
    · exact h1 h
    · rw [h2] at h; cases h
theorem TD.put (t : TD mg A H a bs rows) {j : Nat} {b : Addr} {r : Drow} {kvs : List (List Key × V)} {k : List Key} {v : V} {d : D} (hb : bs[j]? = some b) (hr : rows[j]? = some r) (hH : H b = some (.dT kvs)) (rs : Reps mg A H (kvs.map (·.2)) r.2) (rk : r.1 = kvs.map fun p => .tup (p.1.map kD)) (rv : Rep mg A H v d) :
    TD mg A (upd H b (.dT (L2.putK kvs k v))) a bs (rows.set j (dput r.1 r.2 (.tup (k.map kD)) d)) := by
  have hbA := (t.row j b r hb hr).1
  have kp : Keep A H (upd H b (.dT (L2.putK kvs k v))) := keep_outD hbA hH
  have hab : a ≠ b := fun z => t.nab (z ▸ List.mem_of_getElem? hb)
  have hj : j < rows.length := (List.getElem?_eq_some_iff.mp hr).1
  refine ⟨by rw [upd_ne hab]; exact t.ha, t.na, t.nd, t.nab, by rw [List.length_set]; exact t.len, fun i c r' hc hr' => ?_⟩
  by_cases e : i = j
  · subst e
    rw [hb] at hc
    cases hc
    rw [List.getElem?_set_self hj] at hr'
    cases hr'
    obtain ⟨z1, z2⟩ := dput_put eqv_kT (k := k) rv rs
    rw [rk]
    exact ⟨hbA, _, upd_same, z2.mono (fun _ h => h) kp, z1.symm⟩
  · rw [List.getElem?_set_ne (Ne.symm e)] at hr'
    obtain ⟨h1, zs, h2, h3, h4⟩ := t.row i c r' hc hr'
    have hcb : c ≠ b := fun z => by
      subst z
      exact e (nodup_get t.nd hc hb)
    exact ⟨h1, zs, by rw [upd_ne hcb]; exact h2, h3.mono (fun _ h => h) kp, h4⟩
theorem TD.rep (t : TD mg A H a bs rows) : Rep mg (fun x => A x ∨ x = a ∨ x ∈ bs) H (.ref a) (.lst (rows.map fun r => D.dic true r.1 r.2)) := by
  refine .lst (.inr (.inl rfl)) t.ha ?_
  have : ∀ (cs : List Addr) (rs : List Drow), cs.length = rs.length → (∀ (j : Nat) b r, cs[j]? = some b → rs[j]? = some r → b ∈ bs ∧ ∃ kvs : List (List Key × V), H b = some (.dT kvs) ∧ Reps mg A H (kvs.map (·.2)) r.2 ∧ r.1 = kvs.map fun p => .tup (p.1.map kD)) → Reps mg (fun x => A x ∨ x = a ∨ x ∈ bs) H (cs.map V.ref) (rs.map fun r => D.dic true r.1 r.2) := fun cs => by
    induction cs with
    | nil =>
      intro rs hl _
      cases rs with
      | nil => exact .nil
      | cons => cases hl
    | cons c cs ih =>
      intro rs hl h
      cases rs with
      | nil => cases hl
      | cons r rs =>
        obtain ⟨h1, ys, h2, h3, h4⟩ := h 0 c r rfl rfl
        refine .cons ?_ (ih rs (by simpa using hl) fun j b r' hb hr => h (j + 1) b r' hb hr)
        show Rep mg _ H (.ref c) (D.dic true r.1 r.2)
        rw [h4]
        exact .dicT (.inr (.inr h1)) (.inl h2) (h3.mono (fun _ z => .inl z) keepRefl)
  exact this bs rows t.len fun j b r hb hr => ⟨List.mem_of_getElem? hb, (t.row j b r hb hr).2⟩
end
structure FD (mg : Str → Option Value) (H0 : Hp) (A0 : Addr → Prop) (Ks : List ((Addr → Prop) × Hp)) (a : Addr) (bs : List Addr) (A : Addr → Prop) (σ : L2.St) (H : Hp) (env : DEnv) (rows : List Drow) : Prop where
  vr : VR mg A σ H env
  tb : LamX.Tabs LT.T H
  t : TD mg A H a bs rows
  s4 : σ[4]? = some (some (.ref a))
  e4 : env[4]? = some .no
  sub : ∀ x, A x → A0 x ∨ H0 x = none
  sm : Same H0 H
  fa : H0 a = none
  fb : ∀ b ∈ bs, H0 b = none
  l11 : env.length = 11
  kw : ∀ p ∈ Ks, (∀ x, p.1 x → A x) ∧ Keep p.1 p.2 H
section
variable {K : PySem.W.Frag} {mg : Str → Option Value} {H0 : Hp} {A0 A : Addr → Prop} {Ks : List ((Addr → Prop) × Hp)} {a : Addr} {bs : List Addr} {σ : L2.St} {H H1 : Hp} {env : DEnv} {rows : List Drow}
theorem FD.heap (f : FD mg H0 A0 Ks a bs A σ H env rows) (s : Same H H1) : FD mg H0 A0 Ks a bs (grown A H) σ H1 env rows :=
  ⟨f.vr.heap s, s.tabs f.tb, f.t.heap s, f.s4, f.e4, fun x h => h.elim (f.sub x) fun z => .inr (f.sm.dom x z), f.sm.trans s, f.fa, f.fb, f.l11, fun p hp => ⟨fun x h => .inl ((f.kw p hp).1 x h), (f.kw p hp).2.trans (Same.keep s)⟩⟩
theorem FD.set (f : FD mg H0 A0 Ks a bs A σ H env rows) {i : Nat} {v : V} {d : D} (rv : Rep mg A H v d) (h4 : i ≠ 4) : FD mg H0 A0 Ks a bs A (σ.set i (some v)) H (env.set i (.val d)) rows :=
  ⟨f.vr.set rv, f.tb, f.t, by rw [List.getElem?_set_ne h4]; exact f.s4, by rw [List.getElem?_set_ne h4]; exact f.e4, f.sub, f.sm, f.fa, f.fb, by rw [List.length_set]; exact f.l11, f.kw⟩
theorem FD.put (f : FD mg H0 A0 Ks a bs A σ H env rows) {j : Nat} {b : Addr} {r : Drow} {kvs : List (List Key × V)} {k : List Key} {v : V} {d : D} (hb : bs[j]? = some b) (hr : rows[j]? = some r) (hH : H b = some (.dT kvs)) (rs : Reps mg A H (kvs.map (·.2)) r.2) (rk : r.1 = kvs.map fun p => .tup (p.1.map kD)) (rv : Rep mg A H v d) :
    FD mg H0 A0 Ks a bs A σ (upd H b (.dT (L2.putK kvs k v))) env (rows.set j (dput r.1 r.2 (.tup (k.map kD)) d)) := by
  have hbA := (f.t.row j b r hb hr).1
  have kp : Keep A H (upd H b (.dT (L2.putK kvs k v))) := keep_outD hbA hH
  refine ⟨⟨f.vr.len, fun i d' e => ?_, f.vr.pl⟩, fun p hp => tabS_upd hH trivial (f.tb p hp), f.t.put hb hr hH rs rk rv, f.s4, f.e4, f.sub, f.sm.put (f.fb b (List.mem_of_getElem? hb)) hH trivial, f.fa, f.fb, f.l11, fun p hp => ⟨(f.kw p hp).1, (f.kw p hp).2.trans (kp.sub (f.kw p hp).1)⟩⟩
  obtain ⟨w, h1, h2⟩ := f.vr.vals i _ e
  exact ⟨w, h1, h2.mono (fun _ h => h) kp⟩
theorem FD.less {Ks' : List ((Addr → Prop) × Hp)} (f : FD mg H0 A0 Ks a bs A σ H env rows) (h : ∀ p ∈ Ks', p ∈ Ks) : FD mg H0 A0 Ks' a bs A σ H env rows := ⟨f.vr, f.tb, f.t, f.s4, f.e4, f.sub, f.sm, f.fa, f.fb, f.l11, fun p hp => f.kw p (h p hp)⟩
theorem FD.more {P : Addr → Prop} (f : FD mg H0 A0 Ks a bs A σ H env rows) (h : ∀ x, P x → A x) : FD mg H0 A0 ((P, H) :: Ks) a bs A σ H env rows := ⟨f.vr, f.tb, f.t, f.s4, f.e4, f.sub, f.sm, f.fa, f.fb, f.l11, fun p hp => by
  rcases List.mem_cons.mp hp with rfl | hp
  · exact ⟨h, keepRefl⟩
  · exact f.kw p hp⟩
end
end PV

namespace PV
variable [LT] [RT]
open PySem PySem.Spec PyProof.Rows L2
end PV

namespace PV
variable [LT] [RT]
open PySem PySem.Spec PyProof.Rows L2
end PV

namespace PV
variable [LT] [RT]
open PySem PySem.Spec PyProof.Rows L2
end PV

namespace PV
variable [LT] [RT]
open PySem PySem.Spec PyProof.Rows L2
end PV

namespace PV
variable [LT] [RT]
open PySem PySem.Spec PyProof.Rows L2
end PV

namespace PV
variable [LT] [RT]
open PySem PySem.Spec PyProof.Rows L2
def spCpM (mg : Str → Option Value) (c f g h c2 k : Str) : Sp := fun vs H Q _ => ∃ (x dx C p y C2 dy : Addr) (fs2 : List (Str × V)) (t : V) (ws : List V), vs = [.ref x, .ref y, .ref p] ∧ H x = some (.ins C dx []) ∧ mg c = some (.ref C) ∧ p ≠ x ∧ H p = some (.lst ws) ∧ y ≠ x ∧ H y = some (.ins C2 dy fs2) ∧ mg c2 = some (.ref C2) ∧ fs2.lookup k = some t ∧
  ∀ q, q ≠ x → H q = none → Q .non (upd (upd (upd (upd H x (.ins C dx [(f, .ref y)])) q (.lst ws)) x (.ins C dx [(f, .ref y), (g, .ref q)])) x (.ins C dx [(f, .ref y), (g, .ref q), (h, t)]))
structure CopyOkM (P : Program) (w : World) (K : PySem.W.Frag) (mg : Str → Option Value) (base : Heap) (k : Nat) (c f g h c2 k2 : Str) : Prop where
  ex : ∃ C fa fd ps, FnOk P w K mg base CX0 k fa fd ps (spCpM mg c f g h c2 k2) ∧ mg c = some (.ref C) ∧ Mk K C fa ∧ Binds K fd ps []
end PV

namespace PV
variable [LT] [RT]
open PySem PySem.Spec PyProof.Rows L2
end PV

namespace PV
variable [LT] [RT]
open PySem PySem.Spec PyProof.Rows L2
end PV

namespace PV
variable [LT] [RT]
open PySem PySem.Spec PyProof.Rows L2
end PV

namespace PV
variable [LT] [RT]
open PySem PySem.Spec PyProof.Rows L2
end PV

namespace PV
variable [LT] [RT]
open PySem PySem.Spec PyProof.Rows L2
section
variable {K : PySem.W.Frag} {mg : Str → Option Value} {B : Bs} {O : Nat → Option Addr} {env : DEnv} {σ : L2.St} {H : Hp} {d : Addr} {kvs : List (List Key × V)}
structure LockOk (B : Bs) (d : Addr) : Prop where
  at_ : ∀ o, B.H0 d = some o → (∀ ps, o ≠ .tbl ps) → ∃ k, o = .dT k
  tb_ : ∀ p ∈ LT.T, p.1 ≠ d
end
end PV

namespace PV
variable [LT] [RT]
open PySem PySem.Spec PyProof.Rows L2
end PV

namespace PV
variable [LT] [RT]
open PySem PySem.Spec PyProof.Rows L2
structure EqSep (e z TI TO i1 i2 : Addr) : Prop where
  all : e ≠ z ∧ e ≠ TI ∧ e ≠ TO ∧ e ≠ i1 ∧ e ≠ i2
end PV

namespace PV
variable [LT] [RT]
open PySem PySem.Spec PyProof.Rows L2
end PV

namespace PV
variable [LT] [RT]
open PySem PySem.Spec PyProof.Rows L2
def sv (i : Nat) : Ex := fun e => match (e[i]? : Option DSlot) with
  | some (DSlot.slf d) => some d
  | _ => none
def getS (i : Nat) (k : Ex) : Ex := fun e => (k e).bind fun kd => match (e[i]? : Option DSlot), kd with
  | some (DSlot.slf (D.lst xs)), .int n => (ixN xs.length n).bind fun j => xs[j]?
  | _, _ => none
def stS (i : Nat) (k a : Ex) : Sx := fun e => (a e).bind fun d => (k e).bind fun kd => match (e[i]? : Option DSlot), kd with
  | some (DSlot.slf (D.lst xs)), .int n => (ixN xs.length n).bind fun j => some (.nx (e.set i (.slf (.lst (xs.set j d)))))
  | _, _ => none
def Ee := DEnv → Option (D × DEnv)
def Ea := DEnv → Option (List D × DEnv)
def puE (a : Ex) : Ee := fun e => (a e).map fun d => (d, e)
def eN : Ea := fun e => some ([], e)
def eC (a : Ee) (b : Ea) : Ea := fun e => (a e).bind fun p => (b p.2).bind fun q => some (p.1 :: q.1, q.2)
def eop2 (f : D → D → Option D) (a b : Ee) : Ee := fun e => (a e).bind fun p => (b p.2).bind fun q => (f p.1 q.1).map fun d => (d, q.2)
def eTup (a : Ea) : Ee := fun e => (a e).bind fun p => if p.1.length ≤ szL then some (.tup p.1, p.2) else none
def eCal (F : Fn) (i j : Nat) (a : Ax) (b : Ax) : Ee := fun e => (a e).bind fun xs => match (e[i]? : Option DSlot) with
  | some (DSlot.slf d) => (b e).bind fun ys => if xs.length = j then match F (xs ++ d :: ys) with
    | some (.tup [r, d']) => some (r, e.set i (.slf d'))
    | _ => none
    else none
  | _ => none
def nCal (F : Fn) (j : Nat) (a : Ax) (n : Ex) (b : Ax) : Ex := fun e => (a e).bind fun xs => (n e).bind fun d => (b e).bind fun ys => if xs.length = j ∧ D.imms ys = true then match F (xs ++ d :: ys) with
  | some (.tup [r, _]) => some r
  | _ => none
  else none
def setEe (i : Nat) (a : Ee) : Sx := fun e => (a e).map fun p => .nx (p.2.set i (.val p.1))
def rtS (i : Nat) (a : Ee) : Sx := fun e => (a e).bind fun p => match (p.2[i]? : Option DSlot) with
  | some (DSlot.slf d) => some (.ret (.tup [p.1, d]))
  | _ => none
section
variable {K : PySem.W.Frag} {mg : Str → Option Value} {B : Bs} {H H' H1 H2 : Hp} {O O' : Nat → Option Addr} {σ : L2.St} {env : DEnv} {i : Nat}
theorem keep_fm (r : ERel K mg B O σ H env) (f : Fm O H O' H') : Keep (Lv B O false) H H' := by
  have ne : ∀ a, Lv B O false a → ∀ j, O j ≠ some a := fun a h => h.2.elim (fun z => Bool.noConfusion z) id
  have no : ∀ {a o}, H a = some o → ¬ Wr o → ∀ j, O j ≠ some a := fun {a o} h w j e => by
    obtain ⟨o', h', w'⟩ := r.trk j a e
    rw [h] at h'
    cases h'
    exact w w'
  refine ⟨fun a u ha _ h => ?_, fun a C dx fs ha h => f.keep _ _ (ne a ha) h, fun a xs ha h => f.keep _ _ (ne a ha) h, fun a xs h => f.keep _ _ (no h (fun z => z)) h, fun a ob xs h => f.keep _ _ (no h (fun z => z)) h⟩
  rcases h with h | ⟨ob, h⟩
  · exact .inl (f.keep _ _ (ne a ha) h)
  · exact .inr ⟨ob, f.keep _ _ (ne a ha) h⟩
def tEE (K : PySem.W.Frag) (mg : Str → Option Value) (de : Ee) : TE := fun σ H Q => ∃ B O env d env', ERel K mg B O σ H env ∧ de env = some (d, env') ∧ ∀ v H', ERel K mg B O σ H' env' → Fm O H O H' → Rep mg (Lv B O false) H' v d → Q v H'
def tEA (K : PySem.W.Frag) (mg : Str → Option Value) (da : Ea) : TA := fun σ H Q => ∃ B O env ds env', ERel K mg B O σ H env ∧ da env = some (ds, env') ∧ ∀ vs H', ERel K mg B O σ H' env' → Fm O H O H' → Reps mg (Lv B O false) H' vs ds → Q vs H'
end
section
variable {X : Cx} {τ : Bool}
abbrev EE (X : Cx) (e : Expr) (de : Ee) : Prop := PE X e (tEE X.K X.mg de)
abbrev EA (X : Cx) (es : List Expr) (da : Ea) : Prop := PA X es (tEA X.K X.mg da)
theorem se_getS {i : Nat} {x : Str} {k : Expr} {dk : Ex} {px pos : Pos} (hk : SE X true k dk) (hN : X.N[i]? = some x := by rfl) (hv : Vis X.env.scope x := by first | exact Or.inl rfl | exact Or.inr (Or.inl rfl) | exact Or.inr (Or.inr rfl)) (hd : (x == ("__debug__" : Str)) = false := by decide)
    (hcd : (x == ("__classdict__" : Str)) = false := by decide) (hs : PlainIx k := by intro _ _; rfl) : SE X τ (.Subscript (.Name x px) k pos) (getS i dk) := (pe_ix ix_list (pe_var hN hv hd hcd) hk hs).weak fun σ H Q ⟨B, O, env, d, r, h1, q⟩ => by
  obtain ⟨kd, hkd, h1⟩ := bnd h1
  split at h1
  · rename_i xs n hi
    obtain ⟨j, hj, h1⟩ := bnd h1
    obtain ⟨g1, g2, g4⟩ := r.slfs i _ hi
    refine ⟨_, g2, B, O, env, _, r, hkd, fun y H2 s2 r2 => ?_⟩
    have rl2 := r.heap s2
    obtain ⟨g1', g2', g4'⟩ := rl2.slfs i _ hi
    cases g4'
    rename_i ws hH rs
    cases r2
    obtain ⟨w, hw, rw'⟩ := rs.get h1
    refine ⟨B.sf, ws, n, w, rfl, rfl, SqL.of hH, ?_, ?_⟩
    · unfold atI
      rw [rs.len]
      show (PV.ixN xs.length n).bind _ = _
      rw [hj]
      exact hw
    · exact q _ H2 s2 (rw'.mono (fun _ z => Lv.mono z) keepRefl)
  · cases h1
theorem s_stS {i : Nat} {x : Str} {e k : Expr} {de dk : Ex} {px pos pos' : Pos} (hk : SE X true k dk) (he : SE X false e de) (hN : X.N[i]? = some x := by rfl) (hv : Vis X.env.scope x := by first | exact Or.inl rfl | exact Or.inr (Or.inl rfl) | exact Or.inr (Or.inr rfl)) (hd : (x == ("__debug__" : Str)) = false := by decide)
    (hcd : (x == ("__classdict__" : Str)) = false := by decide)
    (ha : ∀ v, assign (.Subscript (.Name x px) k pos') X.env v = (do
      let ov ← holding [v] (eval (.Name x px) X.env)
      let iv ← holding [v, ov] (eval k X.env)
      standAt pos'
      holding [v, ov, iv] (setItem ov iv v)
      release [v, ov, iv] []) := by intro _; rfl)
    (hs : swapsWithSole [.Subscript (.Name x px) k pos'] e pos.line X.env = pure false := by rfl) (hw : swappedStores [.Subscript (.Name x px) k pos'] e X.env = pure none := by rfl)
    (h1 : (assignEach [.Subscript (.Name x px) k pos'] X.env).map (·.2) = [assign (.Subscript (.Name x px) k pos') X.env] := by rfl) :
    SS X (.Assign [.Subscript (.Name x px) k pos'] e pos) (stS i dk de) := (ps_asg he (pg_sub (pe_var hN hv hd hcd) hk set_list ha) hs hw h1).weak fun D σ H ⟨B, O, env, r, rl, h1, q⟩ => by
  obtain ⟨d, hd, h1⟩ := bnd h1
  obtain ⟨kd, hkd, h1⟩ := bnd h1
  split at h1
  · rename_i xs n hi
    obtain ⟨j, hj, h1⟩ := bnd h1
    cases h1
    refine ⟨B, O, env, d, rl, hd, fun v H1 s1 r1 => ?_⟩
    obtain ⟨g1, g2, g4⟩ := (rl.heap s1).slfs i _ hi
    refine ⟨_, g2, B, O, env, _, rl.heap s1, hkd, fun y H2 s2 r2 => ?_⟩
    have rl2 := (rl.heap s1).heap s2
    have r1' := r1.same s2
    obtain ⟨g1', g2', g4'⟩ := rl2.slfs i _ hi
    cases g4'
    rename_i ws hH rs
    cases r2
    refine ⟨B.sf, ws, n, j, rfl, rfl, hH, ?_, ?_⟩
    · rw [rs.len]; exact hj
    · have z := ERel.writeS (i := i) (o' := .lst (ws.set j v)) (d' := .lst (xs.set j d)) rl2 g1 g2' (.lst upd_same ((rs.set j r1').mono (fun _ z => z) (keep_write rl2 g1))) trivial
      exact q σ _ O z.1 ((Fm.of_same (s1.trans s2)).trans z.2)
  · cases h1
theorem ee_pure {e : Expr} {de : Ex} (h : SE X false e de) : EE X e (puE de) := h.weak fun σ H Q ⟨B, O, env, d, env', r, h1, q⟩ => by
  obtain ⟨x, hx, h2⟩ := Option.map_eq_some_iff.mp h1
  cases h2
  exact ⟨B, O, env, d, r, hx, fun v H' s rv => q v H' (r.heap s) (Fm.of_same s) rv⟩
theorem ee_op2 {f : D → D → Option D} {op : Operator} {a b : Expr} {da db : Ee} {pos : Pos} (ho : OpR X (binaryOp op) (rD X.mg f)) (ha : EE X a da) (hb : EE X b db) : EE X (.BinOp a op b pos) (eop2 f da db) := (pe_op ho ha hb).weak fun σ H Q ⟨B, O, env, d, env', r, h1, q⟩ => by
  obtain ⟨⟨x, e1⟩, hx, h1⟩ := bnd h1
  obtain ⟨⟨y, e2⟩, hy, h1⟩ := bnd h1
  obtain ⟨d', hd, h2⟩ := Option.map_eq_some_iff.mp h1
  cases h2
  refine ⟨B, O, env, x, e1, r, hx, fun v H1 r1 f1 rv => ⟨B, O, e1, y, e2, r1, hy, fun w H2 r2 f2 rw' => ?_⟩⟩
  exact ⟨_, x, y, d, r2.fr, rv.mono (fun _ z => z) (keep_fm r1 f2), rw', hd, fun v' H' s' rv' => q v' H' (r2.heap s') ((f1.trans f2).trans (Fm.of_same s')) rv'⟩
theorem ee_ix {a b : Expr} {da db : Ee} {pos : Pos} (ha : EE X a da) (hb : EE X b db) (hs : PlainIx b := by intro _ _; rfl) : EE X (.Subscript a b pos) (eop2 getD da db) := (pe_ix ix_getD ha hb hs).weak fun σ H Q ⟨B, O, env, d, env', r, h1, q⟩ => by
  obtain ⟨⟨x, e1⟩, hx, h1⟩ := bnd h1
  obtain ⟨⟨y, e2⟩, hy, h1⟩ := bnd h1
  obtain ⟨d', hd, h2⟩ := Option.map_eq_some_iff.mp h1
  cases h2
  refine ⟨B, O, env, x, e1, r, hx, fun v H1 r1 f1 rv => ⟨B, O, e1, y, e2, r1, hy, fun w H2 r2 f2 rw' => ?_⟩⟩
  exact ⟨_, x, y, d, r2.fr, rv.mono (fun _ z => z) (keep_fm r1 f2), rw', hd, fun v' H' s' rv' => q v' H' (r2.heap s') ((f1.trans f2).trans (Fm.of_same s')) rv'⟩
theorem ea_nil : EA X [] eN := pa_nil.weak fun σ H Q ⟨B, O, env, ds, env', r, h1, q⟩ => by
  cases h1
  exact q _ H r (Fm.of_same (Same.refl H)) .nil
theorem ea_cons {e : Expr} {es : List Expr} {de : Ee} {da : Ea} (he : EE X e de) (ha : EA X es da) (hs : starEach (e :: es) X.env = (false, eval e X.env) :: starEach es X.env := by rfl) : EA X (e :: es) (eC de da) := (pa_cons he ha hs).weak fun σ H Q ⟨B, O, env, ds, env', r, h1, q⟩ => by
  obtain ⟨⟨x, e1⟩, hx, h1⟩ := bnd h1
  obtain ⟨⟨xs, e2⟩, hxs, h1⟩ := bnd h1
  cases h1
  exact ⟨B, O, env, x, e1, r, hx, fun v H1 r1 f1 rv => ⟨B, O, e1, xs, e2, r1, hxs, fun vs H2 r2 f2 rs => q _ H2 r2 (f1.trans f2) (.cons (rv.mono (fun _ z => z) (keep_fm r1 f2)) rs)⟩⟩
theorem ee_tup {es : List Expr} {da : Ea} {x1} {pos : Pos} (ha : EA X es da) : EE X (.Tuple es x1 pos) (eTup da) := (pe_tup ha).weak fun σ H Q ⟨B, O, env, d, env', r, h1, q⟩ => by
  obtain ⟨⟨xs, e1⟩, hx, h2⟩ := bnd h1
  split at h2
  · rename_i hz
    cases h2
    refine ⟨B, O, env, xs, e1, r, hx, fun vs H1 r1 f1 rs => ⟨by rw [rs.len]; exact szL_ok hz, fun p hp => ?_⟩⟩
    exact q _ _ (r1.heap (same_upd hp)) (f1.trans (Fm.of_same (same_upd hp))) (.tup upd_same (rs.same (same_upd hp)))
  · cases h2
theorem s_setEe {i : Nat} {x : Str} {e : Expr} {de : Ee} {pos pos' : Pos} (hN : X.N.Nodup) (he : EE X e de) (hi : X.N[i]? = some x := by rfl) (hx : Loc X.env.scope x := by first | exact Or.inl rfl | exact Or.inr rfl) (hs : swapsWith e (some (.Name x pos')) pos.line X.env = pure false := by rfl) (hf : X.fn x = true ∨ X.env.scope.names.lookup x = some .local := by first | exact .inl rfl | exact .inr rfl | assumption) :
    SS X (.Assign [.Name x pos'] e pos) (setEe i de) := (ps_set hN hi hx he hs hf).weak fun D σ H ⟨B, O, env, r, rl, h1, q⟩ => by
  obtain ⟨⟨d, e1⟩, hd, h2⟩ := Option.map_eq_some_iff.mp h1
  cases h2
  exact ⟨B, O, env, d, e1, rl, hd, fun v H1 r1 f1 rv => q _ H1 _ (ERel.set r1 rv) (f1.trans (Fm.of_same (Same.refl H1)).off)⟩
theorem s_rtS {i : Nat} {e : Expr} {de : Ee} {pos : Pos} (he : EE X e de) (hn : RT.nw = true := by rfl) (hso : RT.so = true := by rfl) : SS X (.Return (some e) pos) (rtS i de) := (ps_ret he).weak fun D σ H ⟨B, O, env, r, rl, h1, q⟩ => by
  obtain ⟨⟨d, e1⟩, hd, h2⟩ := bnd h1
  split at h2
  · rename_i dn hi
    cases h2
    refine ⟨B, O, env, d, e1, rl, hd, fun v H1 r1 f1 rv => q v H1 r1.same ?_⟩
    have hi : e1[i]? = some (DSlot.slf dn) := hi
    obtain ⟨g1, g2, g4⟩ := r1.slfs i _ hi
    have up : ∀ a, Lv B O false a → (Lv B (fun _ => none) true a ∧ a ≠ B.sf) := fun a h => ⟨⟨h.1, .inl rfl⟩, fun z => by
      subst z
      exact h.2.elim (fun z => Bool.noConfusion z) fun z => z i g1⟩
    unfold retP
    rw [hn, hso]
    exact ⟨d, dn, rfl, rv.mono up keepRefl, g4.mono up keepRefl fun _ z => z⟩
  · cases h2
end
end PV

namespace PV
variable [LT] [RT]
open PySem PySem.Spec PyProof.Rows L2
def fncS (j m n : Nat) (b : Sx) : Fn := fun ds => if ds.length = m ∧ j < m then (b ((ds.map DSlot.val ++ List.replicate (n - m) DSlot.no).set j (.slf (ds.getD j .non)))).bind fun r => match r with
    | .ret d => some d
    | .nx e => match (e[j]? : Option DSlot) with
      | some (DSlot.slf d) => some (.tup [.non, d])
      | _ => none
    | _ => none
  else none
def spS (mg : Str → Option Value) (j : Nat) (F : Fn) : Sp := fun vs H Q _ => ∃ (A : Addr → Prop) (vs1 vs2 : List V) (n : Addr) (xs ys : List D) (dn r dn' : D), vs = vs1 ++ .ref n :: vs2 ∧ vs1.length = j ∧ ¬ A n ∧ (∀ a, H a = none → A a) ∧ LamX.Tabs LT.T H ∧ Reps mg A H vs1 xs ∧ Reps mg A H vs2 ys ∧ Own mg A H n dn ∧ F (xs ++ dn :: ys) = some (.tup [r, dn']) ∧
  ∀ v H', SameN n H H' → Rep mg A H' v r → Own mg A H' n dn' → Q v H'
section
variable {P : Program} {w : World} {K : PySem.W.Frag} {mg : Str → Option Value} {base : Heap}
theorem retP_st {B : Bs} {H' : Hp} {v : V} {d : D} (hn : RT.nw = true) (hs : RT.so = true) (h : retP mg B H' v d) : ∃ d0 dn, d = .tup [d0, dn] ∧ Rep mg (fun a => Lv B (fun _ => none) true a ∧ a ≠ B.sf) H' v d0 ∧ Own mg (fun a => Lv B (fun _ => none) true a ∧ a ≠ B.sf) H' B.sf dn := by
  unfold retP at h
  rw [hn, hs] at h
  exact h
theorem mid_get {α : Type} {a b : List α} {x y : α} {i : Nat} (h : (a ++ x :: b)[i]? = some y) : (i < a.length ∧ a[i]? = some y) ∨ (i = a.length ∧ y = x) ∨ (a.length < i ∧ b[i - a.length - 1]? = some y) := by
  by_cases h1 : i < a.length
  · rw [List.getElem?_append_left h1] at h
    exact .inl ⟨h1, h⟩
  · rw [List.getElem?_append_right (by omega)] at h
    by_cases h2 : i = a.length
    · subst h2
      rw [Nat.sub_self] at h
      exact .inr (.inl ⟨rfl, by simpa using h.symm⟩)
    · obtain ⟨k, hk⟩ : ∃ k, i - a.length = k + 1 := ⟨i - a.length - 1, by omega⟩
      rw [hk] at h
      exact .inr (.inr ⟨by omega, by rw [hk]; simpa using h⟩)
theorem fnS_sound {x qual : Str} {args : Arguments} {body : List Stmt} {sc : Scope} {f : Addr} {fd : FuncData} {N ps : List Str} {k j : Nat} {db : Sx} (F : FunD K x qual args body sc [] [] f fd) (S : FnScope N ps sc) (hn : RT.nw = true) (hs : RT.so = true) (hj : j < ps.length)
    (hb : ∀ (cdv : Value) (A : Around) (outer : List Env) (s : Shared) (H : Hp), Room k (A.deeper (envOfC qual sc s.heap.objs.size f cdv)) → SSs (cxOf CX0 P w K mg base N qual sc f cdv A outer s H E0).nox body db) :
    FnOk P w K mg base CX0 (k + 1) f fd ps (spS mg j (fncS j ps.length N.length db)) := by
  have hpl : ps.length ≤ N.length := by have := congrArg List.length S.pre; rw [List.length_take] at this; omega
  refine F.ok S (fun vs H Q E h => ?_) fun cdv A outer s H vs Q E hr h => ?_
  · obtain ⟨A, vs1, vs2, n, xs, ys, dn, r, dn', rfl, _, _, _, _, r1, r2, _, e, _⟩ := h
    unfold fncS at e
    split at e
    · rename_i hl
      rw [← hl.1, List.length_append, List.length_append, List.length_cons, List.length_cons, r1.len, r2.len]
    · cases e
  · refine ⟨tS K mg db, PSs.nox (hb cdv A outer s H hr), ?_⟩
    obtain ⟨A1, vs1, vs2, n, xs, ys, dn, r, dn', rfl, hl1, hA, hfr, tb, r1, r2, ow, e, q⟩ := h
    unfold fncS at e
    split at e
    rotate_left
    · cases e
    rename_i hl
    obtain ⟨hl, _⟩ := hl
    have hxl : xs.length = j := by rw [← r1.len]; exact hl1
    have hgd : (xs ++ dn :: ys).getD j .non = dn := by
      rw [List.getD_eq_getElem?_getD, ← hxl, List.getElem?_append_right (Nat.le_refl _)]; simp
    rw [hgd] at e
    obtain ⟨on, hon, wn⟩ := own_wr ow
    obtain ⟨rs, h1, h2⟩ := bnd e
    have tb0 := tabs_less (n := n) hon wn tb
    have lv : ∀ {a}, A1 a → Lv ⟨fun b => if b = n then none else H b, A1, n, tb0⟩ (fun i => if i = j then some n else none) false a := fun {a} h => ⟨.inl h, .inr fun i z => by
      dsimp only at z
      split at z
      · cases z; exact hA h
      · cases z⟩
    have lvb : ∀ {O : Nat → Option Addr} {a}, Lv ⟨fun b => if b = n then none else H b, A1, n, tb0⟩ O true a → a ≠ n → A1 a := fun {O a} h hne => by
      rcases h.1 with z | z
      · exact z
      · have z : (if a = n then none else H a) = none := z
        rw [if_neg hne] at z
        exact hfr a z
    have gts : ∀ (i : Nat) (d : D), i ≠ j → (xs ++ dn :: ys)[i]? = some d → ∃ v, (vs1 ++ .ref n :: vs2)[i]? = some v ∧ Rep mg A1 H v d := fun i d hij hd => by
      rcases mid_get hd with ⟨h1, h2⟩ | ⟨h1, _⟩ | ⟨h1, h2⟩
      · obtain ⟨v, g1, g2⟩ := r1.get h2
        exact ⟨v, by rw [List.getElem?_append_left (by rw [hl1]; omega)]; exact g1, g2⟩
      · exact absurd (h1.trans hxl) hij
      · obtain ⟨v, g1, g2⟩ := r2.get h2
        refine ⟨v, ?_, g2⟩
        rw [List.getElem?_append_right (by rw [hl1]; omega), show i - vs1.length = (i - xs.length - 1) + 1 by rw [hl1]; omega]
        simpa using g1
    have vl : (vs1 ++ V.ref n :: vs2).length = ps.length := by rw [← hl, List.length_append, List.length_append, List.length_cons, List.length_cons, r1.len, r2.len]
    have rl : ERel K mg ⟨fun b => if b = n then none else H b, A1, n, tb0⟩ (fun i => if i = j then some n else none) (L2.start N (vs1 ++ .ref n :: vs2)) H (((xs ++ dn :: ys).map DSlot.val ++ List.replicate (N.length - ps.length) DSlot.no).set j (.slf dn)) := by
      have el : ((xs ++ dn :: ys).map DSlot.val ++ List.replicate (N.length - ps.length) DSlot.no).length = N.length := by rw [List.length_append, List.length_map, hl, List.length_replicate]; omega
      have st : ∀ i, i < ps.length → (L2.start N (vs1 ++ .ref n :: vs2))[i]? = ((vs1 ++ V.ref n :: vs2)[i]?).map some := fun i hi => by
        unfold L2.start
        rw [List.getElem?_append_left (by rw [List.length_map, vl]; exact hi), List.getElem?_map]
      have no : ∀ (i : Nat) (x : DSlot), (((xs ++ dn :: ys).map DSlot.val ++ List.replicate (N.length - ps.length) DSlot.no).set j (.slf dn))[i]? = some x → (i = j ∧ x = .slf dn) ∨ (i ≠ j ∧ i < ps.length ∧ ∃ d, x = .val d ∧ (xs ++ dn :: ys)[i]? = some d) ∨ x = .no := fun i x e => by
        by_cases hij : i = j
        · subst hij
          rw [List.getElem?_set_self (by rw [el]; omega)] at e
          exact .inl ⟨rfl, (Option.some.inj e).symm⟩
        · rw [List.getElem?_set_ne (Ne.symm hij)] at e
          by_cases hi : i < ps.length
          · rw [List.getElem?_append_left (by rw [List.length_map, hl]; exact hi), List.getElem?_map] at e
            obtain ⟨d, hd, rfl⟩ := Option.map_eq_some_iff.mp e
            exact .inr (.inl ⟨hij, hi, d, rfl, hd⟩)
          · rw [List.getElem?_append_right (by rw [List.length_map, hl]; omega), List.getElem?_replicate] at e
            split at e
            · exact .inr (.inr (Option.some.inj e).symm)
            · cases e
      refine ⟨?_, same_less, fun i d e => ?_, fun i d e => ?_, fun i d e => ?_, fun i i2 p a b => ?_, fun i p a => ?_, fun i p a => ?_, ⟨j + 1, fun i hi => if_neg (by omega)⟩, fun i p a hi => ?_⟩
      · rw [List.length_set, el]
        unfold L2.start
        simp only [List.length_append, List.length_map, List.length_replicate] at vl ⊢
        simp only [List.length_cons] at vl ⊢
        omega
      · rcases no i _ e with ⟨_, z⟩ | ⟨hij, hi, d', z, hd⟩ | z
        · cases z
        · cases z
          obtain ⟨v, g1, g2⟩ := gts i d hij hd
          exact ⟨v, by rw [st i hi, g1]; rfl, g2.mono (fun a h => lv h) keepRefl⟩
        · cases z
      · rcases no i _ e with ⟨_, z⟩ | ⟨_, _, _, z, _⟩ | z <;> cases z
      · rcases no i _ e with ⟨hij, z⟩ | ⟨_, _, _, z, _⟩ | z
        · cases z
          subst hij
          refine ⟨if_pos rfl, ?_, ow.mono (fun a h => lv h) keepRefl fun _ z => z⟩
          rw [st i hj, ← hl1, List.getElem?_append_right (Nat.le_refl _)]
          simp
        · cases z
        · cases z
      · (try dsimp only at a b)
        split at a <;> split at b <;> first | omega | (cases a; done) | (cases b; done)
      · (try dsimp only at a)
        split at a
        · cases a; exact ⟨on, hon, wn⟩
        · cases a
      · (try dsimp only at a)
        split at a
        · cases a; simp
        · cases a
      · (try dsimp only at a)
        split at a
        · rename_i hi0
          subst hi0
          exact ⟨dn, .inr (List.getElem?_set_self (by rw [el]; omega))⟩
        · cases a
    refine ⟨_, _, _, rs, rl, h1, ?_⟩
    have sx : ∀ {H'}, Same (fun b => if b = n then none else H b) H' → (LamX.Tabs LT.T H → LamX.Tabs LT.T H') → (∀ b, b ≠ n → H' b = none → H b = none) → SameN n H H' := fun {H'} s t dm => ⟨fun b o hb e _ => s.stay b o (by rw [if_neg hb]; exact e), t, dm⟩
    cases rs with
    | nx e' =>
      (try dsimp only at h2)
      split at h2
      · rename_i d9 he9
        cases h2
        refine fun σ' H' O' rl' f' => ?_
        obtain ⟨g1, g2, g3⟩ := rl'.slfs j _ he9
        have up : ∀ a, Lv _ O' false a → A1 a := fun a h => lvb h.any fun z => by
          subst z
          exact h.2.elim (fun z => Bool.noConfusion z) fun z => z j g1
        exact q _ H' (sx rl'.same f'.tab fun b _ h => f'.dom b h) .non (g3.mono up keepRefl fun _ z => z)
      · cases h2
    | ret d' =>
      cases h2
      refine fun v H' s' rv => ?_
      obtain ⟨d0, d9, e9, rv, o9⟩ := retP_st hn hs rv
      cases e9
      refine q v H' (sx s' (fun _ => s'.tabs tb0) fun b hbn hb => ?_) (rv.mono (fun a h => lvb h.1 h.2) keepRefl) (o9.mono (fun a h => lvb h.1 h.2) keepRefl fun _ z => z)
      have z : (if b = n then none else H b) = none := s'.dom b hb
      rw [if_neg hbn] at z
      exact z
    | bk e' => cases h2
    | ct e' => cases h2
structure CallS (P : Program) (w : World) (K : PySem.W.Frag) (mg : Str → Option Value) (base : Heap) (k : Nat) (x : Str) (j : Nat) (F : Fn) : Prop where
  ex : ∃ f fd ps, FnOk P w K mg base CX0 k f fd ps (spS mg j F) ∧ mg x = some (.ref f) ∧ PySem.W.keepIn K (.ref f) = true ∧ Binds K fd ps []
theorem CallS.up {j k l : Nat} {x : Str} {F : Fn} (c : CallS P w K mg base j x l F) (h : j ≤ k) : CallS P w K mg base k x l F :=
  let ⟨f, fd, ps, a, b, c, d⟩ := c.ex; ⟨f, fd, ps, a.mono h, b, c, d⟩
end
section
variable {K : PySem.W.Frag} {mg : Str → Option Value} {B : Bs} {H H' : Hp} {O : Nat → Option Addr} {σ : L2.St} {env : DEnv} {i : Nat} {d d' : D}
theorem ERel.stepS (r : ERel K mg B O σ H env) (hi : env[i]? = some (DSlot.slf d)) (s : SameN B.sf H H') (ow : Own mg (Lv B O false) H' B.sf d') : ERel K mg B O σ H' (env.set i (.slf d')) ∧ Fm O H O H' := by
  obtain ⟨hO, hs, _⟩ := r.slfs i _ hi
  have h0 := r.fr0 i _ hO
  obtain ⟨o9, ho9, w9⟩ := own_wr ow
  obtain ⟨o1, ho1, w1⟩ := r.trk i _ hO
  have nl : ∀ a, Lv B O false a → a ≠ B.sf := fun a h e => by
    subst e
    exact h.2.elim (fun z => Bool.noConfusion z) fun z => z i hO
  have nt : ∀ {a o}, H a = some o → ¬ Wr o → a ≠ B.sf := fun {a o} h wr e => by
    subst e
    rw [ho1] at h
    cases h
    exact wr w1
  have kp : Keep (Lv B O false) H H' := by
    refine ⟨fun a u ha _ h => ?_, fun a C dx fs ha h => s.stay _ _ (nl a ha) h, fun a xs ha h => s.stay _ _ (nl a ha) h, fun a xs h => s.stay _ _ (nt h fun z => z) h, fun a ob xs h => s.stay _ _ (nt h fun z => z) h⟩
    rcases h with h | ⟨ob, h⟩
    · exact .inl (s.stay _ _ (nl a ha) h)
    · exact .inr ⟨ob, s.stay _ _ (nl a ha) h⟩
  refine ⟨⟨by simp [r.len], ⟨fun b o e _ => ?_, fun t => s.tab (r.same.tab t), fun b h => ?_⟩, fun j d2 e => ?_, fun j d2 e => ?_, fun j d2 e => ?_, r.inj, fun j q a => ?_, r.fr0, r.bd, fun j q a hj => ?_⟩, ⟨fun b o hb e _ => s.stay b o (fun z => hb i (by rw [z]; exact hO)) e, s.tab, fun b h => ?_, fun j b e => .inl ⟨j, e⟩⟩⟩
  · exact s.stay b o (ne_of_none e h0) (r.same b o e)
  · by_cases hb : b = B.sf
    · subst hb; exact h0
    · exact r.same.dom b (s.dom b hb h)
  · rcases get_set e with ⟨rfl, e2, hl⟩ | ⟨hj, e2⟩
    · cases e2
    · obtain ⟨v, h1, h2⟩ := r.vals j d2 e2
      exact ⟨v, h1, h2.mono (fun _ z => z) kp⟩
  · rcases get_set e with ⟨rfl, e2, hl⟩ | ⟨hj, e2⟩
    · cases e2
    · obtain ⟨q, h1, h2, h3, h4⟩ := r.owns j d2 e2
      have nq : q ≠ B.sf := fun z => hj (r.inj j i B.sf (z ▸ h1) hO)
      exact ⟨q, h1, h2, h3, h4.mono (fun _ z => z) kp fun o z wn => by haveI := wn; exact s.stay _ _ nq z⟩
  · rcases get_set e with ⟨rfl, e2, hl⟩ | ⟨hj, e2⟩
    · cases e2
      exact ⟨hO, hs, ow⟩
    · obtain ⟨h1, _, _⟩ := r.slfs j d2 e2
      exact absurd (r.inj j i _ h1 hO) hj
  · by_cases e : q = B.sf
    · subst e; exact ⟨o9, ho9, w9⟩
    · obtain ⟨o, z, w⟩ := r.trk j q a
      haveI := Wr.nt w
      exact ⟨o, s.stay _ _ e z, w⟩
  · by_cases ej : j = i
    · subst ej
      exact ⟨d', .inr (List.getElem?_set_self (by simpa using hj))⟩
    · rw [List.getElem?_set_ne (Ne.symm ej)]
      exact r.nst j q a (by simpa using hj)
  · by_cases hb : b = B.sf
    · subst hb
      rw [ho9] at h; cases h
    · exact s.dom b hb h
end
def tM (K : PySem.W.Frag) (mg : Str → Option Value) (i j : Nat) (a b : Ax) : TA := fun σ H Q => ∃ B O env xs d ys, ERel K mg B O σ H env ∧ a env = some xs ∧ xs.length = j ∧ env[i]? = some (DSlot.slf d) ∧ b env = some ys ∧
  ∀ vs ws H', Same H H' → Reps mg (Lv B O false) H' vs xs → Reps mg (Lv B O false) H' ws ys → Q (vs ++ .ref B.sf :: ws) H'
section
variable {X : Cx} {τ : Bool}
abbrev PM (X : Cx) (i j : Nat) (es : List Expr) (a b : Ax) : Prop := PA X es (tM X.K X.mg i j a b)
theorem pm_here {i : Nat} {x : Str} {es : List Expr} {b : Ax} {p : Pos} (hb : SA X false es b) (hN : X.N[i]? = some x := by rfl) (hv : Vis X.env.scope x := by first | exact Or.inl rfl | exact Or.inr (Or.inl rfl) | exact Or.inr (Or.inr rfl)) (hd : (x == ("__debug__" : Str)) = false := by decide)
    (hcd : (x == ("__classdict__" : Str)) = false := by decide) (hs : starEach (.Name x p :: es) X.env = (false, eval (.Name x p) X.env) :: starEach es X.env := by rfl) : PM X i 0 (.Name x p :: es) aN b := (pa_cons (pe_var hN hv hd hcd) hb hs).weak fun σ H Q ⟨B, O, env, xs, d, ys, r, h1, hl, hi, h2, q⟩ => by
  cases h1
  obtain ⟨g1, g2, g3⟩ := r.slfs i _ hi
  exact ⟨.ref B.sf, g2, B, O, env, ys, r, h2, fun ws H' s rs => q [] ws H' s .nil rs⟩
theorem pm_cons {i j : Nat} {e : Expr} {es : List Expr} {a : Ex} {b c : Ax} (he : SE X false e a) (hb : PM X i j es b c) (hs : starEach (e :: es) X.env = (false, eval e X.env) :: starEach es X.env := by rfl) : PM X i (j + 1) (e :: es) (aC a b) c := (pa_cons he hb hs).weak fun σ H Q ⟨B, O, env, xs, d, ys, r, h1, hl, hi, h2, q⟩ => by
  obtain ⟨y, hy, h1⟩ := bnd h1
  obtain ⟨zs, hzs, h1⟩ := bnd h1
  cases h1
  refine ⟨B, O, env, y, r, hy, fun v H1 s1 rv => ⟨B, O, env, zs, d, ys, r.heap s1, hzs, by simpa using hl, hi, h2, fun vs ws H' s rs rw' => ?_⟩⟩
  exact q (v :: vs) ws H' (s1.trans s) (.cons (rv.same s) rs) rw'
theorem ee_cal {k i j : Nat} {x : Str} {F : Fn} {e : Expr} {es : List Expr} {a b : Ax} {p pos : Pos} (c : CallS X.prog X.w X.K X.mg X.base k x j F) (hr : Room k X.A) (ha : PM X i j (e :: es) a b) (hg : Gl X x := by rfl)
    (hdb : (x == ("__debug__" : Str)) = false := by decide) (he : starEach (e :: es) X.env = (false, eval e X.env) :: starEach es X.env := by rfl) (hpl : (backTo pos (starEach es X.env)).any (·.1) = false := by rfl) :
    EE X (.Call (.Name x p) (e :: es) [] pos) (eCal F i j a b) := by
  obtain ⟨f, fd, ps, G, hm, hk, hb⟩ := c.ex
  refine (pe_call G hr hg hm hk hb .nil pass0 ha hdb he hpl).weak fun σ H Q ⟨B, O, env, r, env', rl, h1, q⟩ => ?_
  obtain ⟨xs, hxs, h2⟩ := bnd h1
  split at h2
  · rename_i d hi
    obtain ⟨ys, hys, h3⟩ := bnd h2
    split at h3
    · rename_i hl
      split at h3
      · rename_i r' d' hF
        cases h3
        refine ⟨B, O, env, xs, d, ys, rl, hxs, hl, hi, hys, fun vs ws H1 s1 r1 r2 => ?_⟩
        have rl1 := rl.heap s1
        obtain ⟨g1, g2, g3⟩ := rl1.slfs i _ hi
        show spS X.mg j F ((vs ++ .ref B.sf :: ws) ++ []) H1 Q E0
        rw [List.append_nil]
        refine ⟨Lv B O false, vs, ws, B.sf, xs, ys, d, r, d', rfl, by rw [r1.len]; exact hl, fun z => z.2.elim (fun z => Bool.noConfusion z) fun z => z i g1, fun a h => ?_, (rl1.fr (τ := false)).tb, r1, r2, g3, hF, fun v H' s2 rv ow => ?_⟩
        · exact rl1.fr.new a h
        · have z := rl1.stepS hi s2 ow
          exact q v H' z.1 ((Fm.of_same s1).trans z.2) rv
      · cases h3
    · cases h3
  · cases h2
end
end PV

namespace PV
variable [LT] [RT]
open PySem PySem.Spec PyProof.Rows L2
def tMN (K : PySem.W.Frag) (mg : Str → Option Value) (j : Nat) (a : Ax) (n : Ex) (b : Ax) : TA := fun σ H Q => ∃ B O env xs d ys, ERel K mg B O σ H env ∧ a env = some xs ∧ xs.length = j ∧ n env = some d ∧ b env = some ys ∧ D.imms ys = true ∧
  ∀ vs ws p H', Same H H' → H p = none → Reps mg (fun a => Lv B O false a ∧ a ≠ p) H' vs xs → Own mg (fun a => Lv B O false a ∧ a ≠ p) H' p d → Reps mg (fun a => Lv B O false a ∧ a ≠ p) H' ws ys → Q (vs ++ .ref p :: ws) H'
section
variable {X : Cx} {τ : Bool}
theorem ss_nope {b : List Stmt} : SSs X b (fun _ => none) := ⟨fun pins s σ H D I ⟨B, O, env, r, rl, h1, q⟩ => nomatch h1⟩
abbrev PMN (X : Cx) (j : Nat) (es : List Expr) (a : Ax) (n : Ex) (b : Ax) : Prop := PA X es (tMN X.K X.mg j a n b)
theorem pmn_here {e : Expr} {es : List Expr} {n : Ex} {b : Ax} (hn : SN X e n) (hb : SA X false es b) (hs : starEach (e :: es) X.env = (false, eval e X.env) :: starEach es X.env := by rfl) : PMN X 0 (e :: es) aN n b := (pa_cons hn hb hs).weak fun σ H Q ⟨B, O, env, xs, d, ys, r, h1, hl, hn', hb', him, q⟩ => by
  cases h1
  refine ⟨B, O, env, d, r, hn', fun p H1 s1 hp ow => ⟨B, O, env, ys, r.heap s1, hb', fun ws H2 s2 rs => ?_⟩⟩
  exact q [] ws p H2 (s1.trans s2) hp .nil (ow.mono (fun _ z => z) (Same.keep s2) fun o z _ => s2 _ _ z) (Reps.immut him rs)
theorem pmn_cons {j : Nat} {e : Expr} {es : List Expr} {a : Ex} {b : Ax} {n : Ex} {c : Ax} (he : SE X false e a) (hb : PMN X j es b n c) (hs : starEach (e :: es) X.env = (false, eval e X.env) :: starEach es X.env := by rfl) : PMN X (j + 1) (e :: es) (aC a b) n c := (pa_cons he hb hs).weak fun σ H Q ⟨B, O, env, xs, d, ys, r, h1, hl, hn', hb', him, q⟩ => by
  obtain ⟨y, hy, h1⟩ := bnd h1
  obtain ⟨zs, hzs, h1⟩ := bnd h1
  cases h1
  refine ⟨B, O, env, y, r, hy, fun v H1 s1 rv => ⟨B, O, env, zs, d, ys, r.heap s1, hzs, by simpa using hl, hn', hb', him, fun vs ws p H' s hp rs ow rw' => ?_⟩⟩
  exact q (v :: vs) ws p H' (s1.trans s) (Same.free s1 hp) (.cons ((rv.ne hp).same s) rs) ow rw'
theorem se_nCal {k j : Nat} {x : Str} {F : Fn} {e : Expr} {es : List Expr} {a : Ax} {n : Ex} {b : Ax} {p pos : Pos} (c : CallS X.prog X.w X.K X.mg X.base k x j F) (hr : Room k X.A) (ha : PMN X j (e :: es) a n b) (hg : Gl X x := by rfl)
    (hdb : (x == ("__debug__" : Str)) = false := by decide) (he : starEach (e :: es) X.env = (false, eval e X.env) :: starEach es X.env := by rfl) (hpl : (backTo pos (starEach es X.env)).any (·.1) = false := by rfl) :
    SE X τ (.Call (.Name x p) (e :: es) [] pos) (nCal F j a n b) := by
  obtain ⟨f, fd, ps, G, hm, hk, hb⟩ := c.ex
  refine (pe_call G hr hg hm hk hb .nil pass0 ha hdb he hpl).weak fun σ H Q ⟨B, O, env, r, rl, h1, q⟩ => ?_
  obtain ⟨xs, hxs, h2⟩ := bnd h1
  obtain ⟨d, hd, h2⟩ := bnd h2
  obtain ⟨ys, hys, h3⟩ := bnd h2
  split at h3
  · rename_i hl
    split at h3
    · rename_i r' d' hF
      cases h3
      refine ⟨B, O, env, xs, d, ys, rl, hxs, hl.1, hd, hys, hl.2, fun vs ws p H1 s1 hp r1 ow r2 => ?_⟩
      have rl1 := rl.heap s1
      show spS X.mg j F ((vs ++ .ref p :: ws) ++ []) H1 Q E0
      rw [List.append_nil]
      refine ⟨fun a => Lv B O false a ∧ a ≠ p, vs, ws, p, xs, ys, d, r, d', rfl, by rw [r1.len]; exact hl.1, fun z => z.2 rfl, fun a h => ⟨rl1.fr.new a h, fun z => ?_⟩, (rl1.fr (τ := false)).tb, r1, r2, ow, hF, fun v H' s2 rv _ => ?_⟩
      · subst z
        obtain ⟨o, ho⟩ := ow.some
        rw [h] at ho; cases ho
      · exact q v H' (s2.after s1 hp) (rv.mono (fun a z => z.1.mono) keepRefl)
    · cases h3
  · cases h3
end
end PV

namespace PV
variable [LT] [RT]
open PySem PySem.Spec PyProof.Rows L2
def Et := DEnv → Option (Bool × DEnv)
def tesE (a : Ee) : Et := fun e => (a e).bind fun p => match p.1 with
  | .bl b => some (b, p.2)
  | _ => none
def cmpE (f : D → D → Option Bool) (a b : Ee) : Et := fun e => (a e).bind fun p => (b p.2).bind fun q => (f p.1 q.1).map fun c => (c, q.2)
def notE (t : Et) : Et := fun e => (t e).map fun p => (!p.1, p.2)
def orE (a b : Et) : Et := fun e => (a e).bind fun p => if p.1 = true then some (true, p.2) else b p.2
def ifE (t : Et) (a b : Sx) : Sx := fun e => (t e).bind fun p => if p.1 = true then a p.2 else b p.2
def whlE (t : Et) (b : Sx) : Nat → DEnv → Option DRes
  | 0, _ => none
  | n + 1, e => (t e).bind fun p => if p.1 = true then (b p.2).bind (whK (whlE t b n)) else some (.nx p.2)
def whEe (t : Et) (b : Sx) : Sx := whlE t b szL
def calE (F : Fn) (a : Ea) : Ee := fun e => (a e).bind fun p => (F p.1).map fun d => (d, p.2)
def tET (K : PySem.W.Frag) (mg : Str → Option Value) (dt : Et) : TT := fun σ H Q => ∃ B O env b env', ERel K mg B O σ H env ∧ dt env = some (b, env') ∧ ∀ H', ERel K mg B O σ H' env' → Fm O H O H' → Q b H'
section
variable {X : Cx} {τ : Bool}
abbrev ET (X : Cx) (e : Expr) (dt : Et) : Prop := PT X e (tET X.K X.mg dt)
def EWd (X : Cx) (e : Expr) (dt : Et) : Prop := PW X e (tET X.K X.mg dt)
theorem et_tes {e : Expr} {de : Ee} (h : EE X e de) (he : ∀ whole, isTrue e X.env whole = (do let v ← whole; standAt e.pos; holding [v] (truthy v)) := by intro _; rfl) : ET X e (tesE de) := (pt_val h he).weak fun σ H Q ⟨B, O, env, b, env', r, h1, q⟩ => by
  obtain ⟨⟨d, e1⟩, hd, h2⟩ := bnd h1
  refine ⟨B, O, env, d, e1, r, hd, fun v H1 r1 f1 rv => ?_⟩
  split at h2
  · rename_i b' hb
    cases h2
    have hb : d = .bl b := hb
    subst hb
    cases rv
    exact ⟨_, rfl, q H1 r1 f1⟩
  · cases h2
theorem et_cmp {f : D → D → Option Bool} {op : CmpOp} {a b : Expr} {da db : Ee} {pos : Pos} (ho : OpR X (compareOp op) (rB X.mg f)) (ha : EE X a da) (hb : EE X b db) (hm : behindInMarks op b = false := by first | exact nomark _ | rfl) : ET X (.Compare a [op] [b] pos) (cmpE f da db) :=
  (pt_cmpR ho ha hb hm).weak fun σ H Q ⟨B, O, env, c, env', r, h1, q⟩ => by
  obtain ⟨⟨x, e1⟩, hx, h1⟩ := bnd h1
  obtain ⟨⟨y, e2⟩, hy, h1⟩ := bnd h1
  obtain ⟨c', hc, h2⟩ := Option.map_eq_some_iff.mp h1
  cases h2
  refine ⟨B, O, env, x, e1, r, hx, fun v H1 r1 f1 rv => ⟨B, O, e1, y, e2, r1, hy, fun w H2 r2 f2 rw' => ?_⟩⟩
  exact ⟨_, x, y, c, rv.mono (fun _ z => z) (keep_fm r1 f2), rw', hc, ⟨_, rfl, q H2 r2 (f1.trans f2)⟩⟩
theorem et_not {a : Expr} {ta : Et} {pos : Pos} (h : ET X a ta) : ET X (.UnaryOp .Not a pos) (notE ta) := (pt_not h).weak fun σ H Q ⟨B, O, env, c, env', r, e, q⟩ => by
  obtain ⟨⟨k, e1⟩, hk, h2⟩ := Option.map_eq_some_iff.mp e
  cases h2
  exact ⟨B, O, env, k, e1, r, hk, fun H1 r1 f1 => q H1 r1 f1⟩
theorem ew_or1 {a : Expr} {ta : Et} {pos : Pos} (h : ET X a ta) : EWd X (.BoolOp .Or [a] pos) ta := pw_or1 h
theorem ew_or {a b : Expr} {rest : List Expr} {ta tb : Et} {pos : Pos} (h1 : ET X a ta) (h2 : EWd X (.BoolOp .Or (b :: rest) pos) tb) : EWd X (.BoolOp .Or (a :: b :: rest) pos) (orE ta tb) := (pw_or h1 h2).weak fun σ H Q ⟨B, O, env, c, env', r, e, q⟩ => by
  obtain ⟨⟨ca, e1⟩, ha, e⟩ := bnd e
  refine ⟨B, O, env, ca, e1, r, ha, fun H1 r1 f1 => ?_⟩
  cases ca with
  | false => exact iteF ⟨B, O, e1, c, env', r1, e, fun H2 r2 f2 => q H2 r2 (f1.trans f2)⟩
  | true =>
    cases e
    exact iteT (q H1 r1 f1)
theorem EWd.et {e : Expr} {t : Et} (h : EWd X e t) : ET X e t := h.pt
theorem s_ifE {c : Expr} {a b : List Stmt} {t : Et} {da db : Sx} {pos : Pos} (hc : ET X c t) (ha : SSs X a da) (hb : SSs X b db) : SS X (.If c a b pos) (ifE t da db) := (ps_if hc ha hb).weak fun D σ H ⟨B, O, env, r, rl, h1, q⟩ => by
  obtain ⟨⟨d, e1⟩, hd, h2⟩ := bnd h1
  refine ⟨B, O, env, d, e1, rl, hd, fun H' rl' f' => ?_⟩
  cases d with
  | true => exact iteT ⟨B, O, e1, r, rl', h2, q.trans f'⟩
  | false => exact iteF ⟨B, O, e1, r, rl', h2, q.trans f'⟩
theorem s_whileE {c : Expr} {body : List Stmt} {dt : Et} {db : Sx} {pos : Pos} (hp : PassesOwn (model X.prog X.w) X.A X.env X.xe) (hc : ET X c dt) (hb : SSs X body db) : SS X (.While c body [] pos) (whEe dt db) := (ps_while hp hc hb).weak fun D σ H ⟨B, O, env, r, rl, h1, q⟩ => by
  refine ⟨fun m σ' H' => ∃ O' env', ERel X.K X.mg B O' σ' H' env' ∧ Fm O H O' H' ∧ whlE dt db m env' = some r, ⟨szL, O, env, rl, Fm.of_same (Same.refl H), h1⟩, ?_⟩
  rintro m σ' H' ⟨O', env', rl', f', hl⟩
  cases m with
  | zero => cases hl
  | succ m =>
    unfold whlE at hl
    obtain ⟨⟨b, e1⟩, hb, hl⟩ := bnd hl
    refine ⟨B, O', env', b, e1, rl', hb, fun H1 rl1 f1 => ?_⟩
    have f2 := f'.trans f1
    cases b with
    | true =>
      rw [if_pos rfl] at hl
      obtain ⟨r1, hr1, hl⟩ := bnd hl
      refine iteT ⟨fun σ'' H'' => ∃ O'' env'', ERel X.K X.mg B O'' σ'' H'' env'' ∧ Fm O H O'' H'' ∧ whlE dt db m env'' = some r, fun σ'' H'' z => ⟨m, Nat.lt_succ_self m, z⟩, B, O', e1, r1, rl1, hr1, ?_⟩
      cases r1 with
      | nx e2 => exact fun σ6 H6 O6 rl6 f6 => ⟨O6, e2, rl6, f2.trans f6, hl⟩
      | ct e2 => exact fun σ6 H6 O6 rl6 f6 => ⟨O6, e2, rl6, f2.trans f6, hl⟩
      | bk e2 =>
        cases hl
        exact fun σ6 H6 O6 rl6 f6 => q σ6 H6 O6 rl6 (f2.trans f6)
      | ret d =>
        cases hl
        exact q
    | false =>
      rw [if_neg (fun z => Bool.noConfusion z)] at hl
      cases hl
      exact iteF (q σ' H1 O' rl1 f2)
theorem ee_calE {k : Nat} {x : Str} {F : Fn} {e : Expr} {es : List Expr} {da : Ea} {p pos : Pos} (c : CallOk X.prog X.w X.K X.mg X.base k x F) (hr : Room k X.A) (ha : EA X (e :: es) da) (hg : Gl X x := by rfl)
    (hdb : (x == ("__debug__" : Str)) = false := by decide) (he : starEach (e :: es) X.env = (false, eval e X.env) :: starEach es X.env := by rfl) (hpl : (backTo pos (starEach es X.env)).any (·.1) = false := by rfl) :
    EE X (.Call (.Name x p) (e :: es) [] pos) (calE F da) := by
  obtain ⟨f, fd, ps, G, hm, hk, hb⟩ := c.ex
  refine (pe_call G hr hg hm hk hb .nil pass0 ha hdb he hpl).weak fun σ H Q ⟨B, O, env, d, env', rl, h1, q⟩ => ?_
  obtain ⟨⟨ds, e1⟩, hd, h2⟩ := bnd h1
  obtain ⟨d', hF, h3⟩ := Option.map_eq_some_iff.mp h2
  cases h3
  refine ⟨B, O, env, ds, e1, rl, hd, fun vs H1 rl1 f1 rs => ?_⟩
  show spD X.mg F (vs ++ []) H1 Q E0
  rw [List.append_nil]
  exact ⟨Lv B O false, ds, d, rl1.fr, rs, hF, fun v H' s' rv => q v H' (rl1.heap s') (f1.trans (Fm.of_same s')) rv⟩
end
end PV

namespace PV
variable [LT] [RT]
open PySem PySem.Spec PyProof.Rows L2
def augF (i : Nat) (c f : Str) (a : Ex) : Sx := fun e => match (e[i]? : Option DSlot) with
  | some (DSlot.slf (D.ins c' fs xs)) => if c' = c ∧ fs.length < 1000 ∧ fs.length = xs.length then ((fs.zip xs).lookup f).bind fun o => (a e).bind fun d => match o, d with
    | .int n, .int k => some (.nx (e.set i (.slf (.ins c' (putFD f (.int (n + k)) fs xs).1 (putFD f (.int (n + k)) fs xs).2))))
    | _, _ => none
    else none
  | _ => none
def eMet (c m : Str) (F : Fn) (i : Nat) (a : Ax) : Ee := fun e => match (e[i]? : Option DSlot) with
  | some (DSlot.slf (D.ins c' fs xs)) => if c' = c ∧ m ∉ fs then (a e).bind fun ys => match F (.ins c' fs xs :: ys) with
    | some (.tup [r, d']) => some (r, e.set i (.slf d'))
    | _ => none
    else none
  | _ => none
section
variable {P : Program} {w : World} {K : PySem.W.Frag} {mg : Str → Option Value} {base : Heap}
structure MethS (P : Program) (w : World) (K : PySem.W.Frag) (mg : Str → Option Value) (base : Heap) (k : Nat) (c m : Str) (F : Fn) : Prop where
  ex : ∃ C f fd ps, FnOk P w K mg base CX0 k f fd ps (spS mg 0 F) ∧ mg c = some (.ref C) ∧ Cls K C ∧ Meth K C m f ∧ Binds K fd ps []
theorem MethS.up {j k : Nat} {c m : Str} {F : Fn} (g : MethS P w K mg base j c m F) (h : j ≤ k) : MethS P w K mg base k c m F :=
  let ⟨C, f, fd, ps, a, b, d⟩ := g.ex; ⟨C, f, fd, ps, a.mono h, b, d⟩
end
section
variable {X : Cx} {τ : Bool}
theorem se_fldS (i : Nat) {c f x : Str} {px pos : Pos} (hc : AtOk X.K X.mg c f) (hN : X.N[i]? = some x := by rfl) (hv : Vis X.env.scope x := by first | exact Or.inl rfl | exact Or.inr (Or.inl rfl) | exact Or.inr (Or.inr rfl)) (hd : (x == ("__debug__" : Str)) = false := by decide)
    (hcd : (x == ("__classdict__" : Str)) = false := by decide) (hb : attributeBase (.Name x px) f X.env (eval (.Name x px) X.env) = eval (.Name x px) X.env := by rfl) : SE X τ (.Attribute (.Name x px) f pos) (fld [c] f (sv i)) := (pe_fld (pe_var hN hv hd hcd) hb).weak fun σ H Q ⟨B, O, env, d, rl, h1, q⟩ => by
  obtain ⟨y, hy, h2⟩ := bnd h1
  unfold sv at hy
  split at hy
  · rename_i d' hi
    cases hy
    obtain ⟨g1, g2, g3⟩ := rl.slfs i _ hi
    refine ⟨_, g2, ?_⟩
    cases g3 <;> simp only [attr, reduceCtorEq] at h2
    rename_i C dx c' fs' xs hH hmg rs
    split at h2
    · rename_i hm
      obtain rfl : c' = c := by simpa using hm
      obtain ⟨C', e1, e2, e3⟩ := hc.ex
      rw [hmg] at e1; cases e1
      have key : ∀ (fs' : List (Str × V)) (xs : List PV.D), Reps X.mg (Lv B O false) H (fs'.map (·.2)) xs → ((fs'.map (·.1)).zip xs).lookup f = some d → ∃ v, fs'.lookup f = some v ∧ Rep X.mg (Lv B O false) H v d := by
        intro fs'
        induction fs' with
        | nil => intro xs _ e; simp at e
        | cons p r ih =>
          intro xs rs e
          cases rs with
          | cons rv rt =>
            simp only [List.map_cons, List.zip_cons_cons, List.lookup] at e
            simp only [List.lookup]
            split at e
            · rename_i hb
              try rw [hb]
              cases e
              exact ⟨_, rfl, rv⟩
            · rename_i hb
              try rw [hb]
              exact ih _ rt e
      obtain ⟨v, hv1, hv2⟩ := key fs' _ rs h2
      exact ⟨B.sf, C, dx, fs', v, rfl, hH, e2, e3, hv1, q v H (Same.refl H) (hv2.mono (fun _ z => Lv.mono z) keepRefl)⟩
    · cases h2
  · cases hy
theorem s_augF {i : Nat} {c f x : Str} {e : Expr} {de : Ex} {px pos pos' : Pos} (hc : AtOk X.K X.mg c f) (he : SE X true e de) (hN : X.N[i]? = some x := by rfl) (hv : Vis X.env.scope x := by first | exact Or.inl rfl | exact Or.inr (Or.inl rfl) | exact Or.inr (Or.inr rfl)) (hd : (x == ("__debug__" : Str)) = false := by decide)
    (hcd : (x == ("__classdict__" : Str)) = false := by decide) : SS X (.AugAssign (.Attribute (.Name x px) f pos') .Add e pos) (augF i c f de) := (ps_fldaug (pe_var hN hv hd hcd) he in_add).weak fun D σ H ⟨B, O, env, r, rl, h1, q⟩ => by
  unfold augF at h1
  split at h1
  · rename_i c' fs xs hi
    split at h1
    · rename_i hcc
      obtain ⟨rfl, hl1, hl2⟩ := hcc
      obtain ⟨o, ho, h1⟩ := bnd h1
      obtain ⟨d, hd, h1⟩ := bnd h1
      split at h1
      · rename_i n k hz
        clear hz
        cases h1
        obtain ⟨g1, g2, g3⟩ := rl.slfs i _ hi
        cases g3
        rename_i C dx fs' hH hmg rs
        obtain ⟨C', e1, e2, e3⟩ := hc.ex
        rw [hmg] at e1; cases e1
        have key : ∀ (fs' : List (Str × V)) (xs : List PV.D), Reps X.mg (Lv B O false) H (fs'.map (·.2)) xs → ((fs'.map (·.1)).zip xs).lookup f = some (.int n) → fs'.lookup f = some (.int n) := by
          intro fs'
          induction fs' with
          | nil => intro xs _ e; simp at e
          | cons p r ih =>
            intro xs rs e
            cases rs with
            | cons rv rt =>
              simp only [List.map_cons, List.zip_cons_cons, List.lookup] at e
              simp only [List.lookup]
              split at e
              · rename_i hb
                try rw [hb]
                cases e
                obtain ⟨g, v⟩ := p
                have rv : Rep X.mg (Lv B O false) H v (.int n) := rv
                cases rv
                rfl
              · rename_i hb
                try rw [hb]
                exact ih _ rt e
        have hv1 := key fs' _ rs ho
        refine ⟨_, g2, B.sf, C, dx, fs', .int n, rfl, hH, e2, e3, hv1, B, O, env, _, rl, hd, fun y H2 s2 ry => ?_⟩
        cases ry
        refine ⟨n, k, rfl, rfl, ?_⟩
        have rl2 := rl.heap s2
        obtain ⟨_, _, g3'⟩ := rl2.slfs i _ hi
        have hH2 := s2 _ _ hH
        obtain ⟨p1, p2⟩ := putF_map (f := f) (.int (n + k) : Rep X.mg (Lv B O false) H2 (.int (n + k)) (.int (n + k))) fs' xs (rs.same s2)
        refine ⟨dx, fs', hH2, by simpa using hl1, ?_⟩
        have z := ERel.writeS (o' := .ins C dx (L2.putF f (.int (n + k)) fs')) (d' := .ins c' (putFD f (.int (n + k)) (fs'.map (·.1)) xs).1 (putFD f (.int (n + k)) (fs'.map (·.1)) xs).2) rl2 g1 g2 (by
          rw [← p1]
          exact .ins upd_same hmg (p2.mono (fun _ z => z) (keep_write rl2 g1))) trivial
        exact q σ _ O z.1 ((Fm.of_same s2).trans z.2)
      · cases h1
    · cases h1
  · cases h1
end
end PV

namespace PV
variable [LT] [RT]
open PySem PySem.Spec PyProof.Rows L2
def nMet (c m : Str) (F : Fn) (n : Ex) : Ex := fun e => (n e).bind fun d => match d with
  | .ins c' fs xs => if c' = c ∧ m ∉ fs then match F [.ins c' fs xs] with
    | some (.tup [r, _]) => some r
    | _ => none
    else none
  | _ => none
section
variable {X : Cx} {τ : Bool}
theorem ee_met {k i : Nat} {c m x : Str} {F : Fn} {e : Expr} {es : List Expr} {da : Ax} {px apos pos : Pos} {pl : Sem Bool} (g : MethS X.prog X.w X.K X.mg X.base k c m F) (hr : Room k X.A) (ha : SA X false (e :: es) da)
    (hN : X.N[i]? = some x := by rfl) (hv : Vis X.env.scope x := by first | exact Or.inl rfl | exact Or.inr (Or.inl rfl) | exact Or.inr (Or.inr rfl)) (hd : (x == ("__debug__" : Str)) = false := by decide)
    (hcd : (x == ("__classdict__" : Str)) = false := by decide)
    (hst : starEach (e :: es) X.env = (false, eval e X.env) :: starEach es X.env := by rfl) (hpl : (backTo pos (starEach es X.env)).any (·.1) = false := by rfl)
    (ht : eval (.Call (.Attribute (.Name x px) m apos) (e :: es) [] pos) X.env = (do
      let ov ← eval (.Name x px) X.env
      standAt apos.atName
      let (f, first) ← holding [ov] (getMethod ov m pl)
      callWith pos f first (backTo pos (starEach (e :: es) X.env)) (backToKw pos (keywordEach [] X.env))) := by rfl) :
    EE X (.Call (.Attribute (.Name x px) m apos) (e :: es) [] pos) (eMet c m F i da) := by
  obtain ⟨C, f, fd, ps, G, hm, hc, hM, hb⟩ := g.ex
  refine (pe_meth (pe_var hN hv hd hcd) hc hM G hr hb .nil pass0 ha hst hpl ht).weak fun σ H Q ⟨B, O, env, r, env', rl, h1, q⟩ => ?_
  unfold eMet at h1
  split at h1
  · rename_i c' fs xs hi
    split at h1
    · rename_i hcc
      obtain ⟨rfl, hmem⟩ := hcc
      obtain ⟨ys, hys, h1⟩ := bnd h1
      split at h1
      · rename_i r' d' hF
        cases h1
        obtain ⟨g1, g2, g3⟩ := rl.slfs i _ hi
        cases g3
        rename_i C' dx fs' hH hmg rs
        rw [hm] at hmg; cases hmg
        refine ⟨_, g2, B.sf, dx, fs', rfl, hH, lookup_none hmem, B, O, env, ys, rl, hys, fun vs H1 s1 r1 => ?_⟩
        have rl1 := rl.heap s1
        obtain ⟨g1', g2', g3'⟩ := rl1.slfs i _ hi
        show spS X.mg 0 F (.ref B.sf :: (vs ++ [])) H1 Q E0
        rw [List.append_nil]
        refine ⟨Lv B O false, [], vs, B.sf, [], ys, _, r, d', rfl, rfl, fun z => z.2.elim (fun z => Bool.noConfusion z) fun z => z i g1', fun a h => rl1.fr.new a h, (rl1.fr (τ := false)).tb, .nil, r1, g3', hF, fun v H' s2 rv ow => ?_⟩
        have z := rl1.stepS hi s2 ow
        exact q v H' z.1 ((Fm.of_same s1).trans z.2) rv
      · cases h1
    · cases h1
  · cases h1
theorem ee_met0 {k i : Nat} {c m x : Str} {F : Fn} {px apos pos : Pos} {pl : Sem Bool} (g : MethS X.prog X.w X.K X.mg X.base k c m F) (hr : Room k X.A)
    (hN : X.N[i]? = some x := by rfl) (hv : Vis X.env.scope x := by first | exact Or.inl rfl | exact Or.inr (Or.inl rfl) | exact Or.inr (Or.inr rfl)) (hd : (x == ("__debug__" : Str)) = false := by decide)
    (hcd : (x == ("__classdict__" : Str)) = false := by decide)
    (ht : eval (.Call (.Attribute (.Name x px) m apos) [] [] pos) X.env = (do
      let ov ← eval (.Name x px) X.env
      standAt apos.atName
      let (f, first) ← holding [ov] (getMethod ov m pl)
      callWith pos f first (backTo pos (starEach [] X.env)) (backToKw pos (keywordEach [] X.env))) := by rfl) :
    EE X (.Call (.Attribute (.Name x px) m apos) [] [] pos) (eMet c m F i aN) := by
  obtain ⟨C, f, fd, ps, G, hm, hc, hM, hb⟩ := g.ex
  refine (pe_meth0 (pe_var hN hv hd hcd) hc hM G hr hb .nil pass0 ht).weak fun σ H Q ⟨B, O, env, r, env', rl, h1, q⟩ => ?_
  unfold eMet at h1
  split at h1
  · rename_i c' fs xs hi
    split at h1
    · rename_i hcc
      obtain ⟨rfl, hmem⟩ := hcc
      obtain ⟨ys, hys, h1⟩ := bnd h1
      cases hys
      split at h1
      · rename_i r' d' hF
        cases h1
        obtain ⟨g1, g2, g3⟩ := rl.slfs i _ hi
        have g3' := g3
        cases g3
        rename_i C' dx fs' hH hmg rs
        rw [hm] at hmg; cases hmg
        refine ⟨_, g2, B.sf, dx, fs', rfl, hH, lookup_none hmem, ?_⟩
        show spS X.mg 0 F [.ref B.sf] H Q E0
        refine ⟨Lv B O false, [], [], B.sf, [], [], _, r, d', rfl, rfl, fun z => z.2.elim (fun z => Bool.noConfusion z) fun z => z i g1, fun a h => rl.fr.new a h, (rl.fr (τ := false)).tb, .nil, .nil, g3', hF, fun v H' s2 rv ow => ?_⟩
        have z := rl.stepS hi s2 ow
        exact q v H' z.1 z.2 rv
      · cases h1
    · cases h1
  · cases h1
theorem se_nMet0 {k : Nat} {c m : Str} {F : Fn} {o : Expr} {n : Ex} {apos pos : Pos} {pl : Sem Bool} (g : MethS X.prog X.w X.K X.mg X.base k c m F) (hr : Room k X.A) (hn : SN X o n)
    (ht : eval (.Call (.Attribute o m apos) [] [] pos) X.env = (do
      let ov ← eval o X.env
      standAt apos.atName
      let (f, first) ← holding [ov] (getMethod ov m pl)
      callWith pos f first (backTo pos (starEach [] X.env)) (backToKw pos (keywordEach [] X.env))) := by rfl) :
    SE X τ (.Call (.Attribute o m apos) [] [] pos) (nMet c m F n) := by
  obtain ⟨C, f, fd, ps, G, hm, hc, hM, hb⟩ := g.ex
  refine (pe_meth0 hn hc hM G hr hb .nil pass0 ht).weak fun σ H Q ⟨B, O, env, r, rl, h1, q⟩ => ?_
  obtain ⟨d, hd, h2⟩ := bnd h1
  refine ⟨B, O, env, d, rl, hd, fun p H1 s1 hp ow => ?_⟩
  split at h2
  · rename_i c' fs xs
    split at h2
    · rename_i hcc
      obtain ⟨rfl, hmem⟩ := hcc
      split at h2
      · rename_i r' d' hF
        cases h2
        have ow' := ow
        cases ow
        rename_i C' dx fs' hH hmg rs
        rw [hm] at hmg; cases hmg
        have rl1 := rl.heap s1
        refine ⟨p, dx, fs', rfl, hH, lookup_none hmem, ?_⟩
        show spS X.mg 0 F [.ref p] H1 Q E0
        refine ⟨fun a => Lv B O false a ∧ a ≠ p, [], [], p, [], [], _, r, d', rfl, rfl, fun z => z.2 rfl, fun a h => ⟨rl1.fr.new a h, fun z => ?_⟩, (rl1.fr (τ := false)).tb, .nil, .nil, ow', hF, fun v H' s2 rv _ => ?_⟩
        · subst z
          rw [h] at hH; cases hH
        · exact q v H' (s2.after s1 hp) (rv.mono (fun a z => z.1.mono) keepRefl)
      · cases h2
    · cases h2
  · cases h2
end
end PV

namespace PV
variable [LT] [RT]
open PySem PySem.Spec PyProof.Rows L2
def joinD : D → D → Option D
  | .str a, .lst xs => (strsOf xs).bind fun ys => if (ys.map (·.length)).sum + ys.length * a.length ≤ 16777216 then some (.str (PySem.Str.join a ys)) else none
  | _, _ => none
def digV (cs : List Nat) : Nat := cs.foldl (fun acc c => acc * 10 + (c - 48)) 0
def intS : D → Option D
  | .str x => if x.cps.toList ≠ [] ∧ (x.cps.toList.all fun c => decide (48 ≤ c) && decide (c ≤ 57)) = true ∧ x.length ≤ 640 then some (.int (digV x.cps.toList)) else none
  | _ => none
section
variable {X : Cx} {τ : Bool}
theorem se_join {o e : Expr} {do_ de : Ex} {apos pos : Pos} (ho : SE X true o do_) (he : SE X true e de) (hs : starEach [e] X.env = [(false, eval e X.env)] := by rfl) (hb : attributeBase o "join" X.env (eval o X.env) = eval o X.env := by rfl) (hl : (apos.endLine == pos.line) = true := by rfl) :
    SE X τ (.Call (.Attribute o "join" apos) [e] [] pos) (op2 joinD do_ de) := (pe_join ho he hs hb hl).weak fun σ H Q ⟨B, O, env, d, r, h1, q⟩ => by
  obtain ⟨x, hx, h1⟩ := bnd h1
  obtain ⟨y, hy, h1⟩ := bnd h1
  refine ⟨B, O, env, x, r, hx, fun v H1 s1 r1 => ?_⟩
  cases x <;> simp only [joinD, reduceCtorEq] at h1
  cases y <;> simp only [reduceCtorEq] at h1
  rename_i a xs
  obtain ⟨ys, hys, h1⟩ := bnd h1
  split at h1
  · rename_i hle
    cases h1
    cases r1
    refine ⟨⟨_, rfl⟩, B, O, env, _, r.heap s1, hy, fun w H2 s2 r2 => ?_⟩
    cases r2 with
    | lst ha hH rs =>
      have := strs_rep rs hys
      subst this
      exact ⟨_, _, ys, rfl, rfl, .inl (.inl (.inl hH)), hle, by rw [TL.join_eq]; exact q _ H2 (s1.trans s2) (.str _)⟩
  · cases h1
theorem se_intS {e : Expr} {de : Ex} {p pos : Pos} (hm : X.mg "int" = none) (h : SE X true e de) (hg : Gl X "int" := by rfl) (he : starEach [e] X.env = (false, eval e X.env) :: starEach [] X.env := by rfl) (hpl : (backTo pos (starEach [] X.env)).any (·.1) = false := by rfl) : SE X τ (.Call (.Name "int" p) [e] [] pos) (op1 intS de) := (pe_callTy call_int_str hg hm PyProof.Rows.boot_int (sa_cons h sa_nil he) (by decide) (by decide) he hpl).weak fun σ H Q ⟨B, O, env, d, r, h1, q⟩ => by
  obtain ⟨x, hx, h2⟩ := bnd h1
  refine ⟨B, O, env, [x], r, by simp [aC, aN, hx], fun vs H1 s1 r1 => ?_⟩
  obtain ⟨v, rfl, rx⟩ := reps_one r1
  cases rx <;> simp only [intS, reduceCtorEq] at h2
  split at h2
  · rename_i hc
    cases h2
    refine ⟨_, _, rfl, intText_digits (fun c hcm => ?_) hc.1 (by omega), hc.2.2, q _ H1 s1 (.int _)⟩
    have := List.all_eq_true.mp hc.2.1 c hcm
    simp only [Bool.and_eq_true, decide_eq_true_eq] at this
    exact this
  · cases h2
end
end PV

namespace PV
variable [LT] [RT]
open PySem PySem.Spec PyProof.Rows L2
def anyT : D → Option D
  | .tup xs => (intsOf xs).map fun ns => .bl (ns.any fun n => n != 0)
  | .ftup xs => (intsOf xs).map fun ns => .bl (ns.any fun n => n != 0)
  | _ => none
section
variable {X : Cx}
theorem any_tup (hc : X.calm = true) {pins : List (Addr × Obj)} {s : Shared} {σ : L2.St} {H : Hp} {a : Addr} {ns : List Int} {us : List Value} {Q : VK} (I : L2.Inv X pins σ H s) (r : Vals [.ref a] us) (h : SqT X.K H a (ns.map V.int)) (q : Q (.bl (ns.any fun n => n != 0)) H) : wpAny (model X.prog X.w) X.A (call (.builtin "any") us) (EP X pins σ Q) X.xe s := by
  obtain ⟨its, rv, hl, _⟩ := I.tuple h
  rw [Vals.ref1 r]
  have hI := Vals.ints rv
  have hl0 := hl
  obtain ⟨o0, hg0, _⟩ := hl0
  have hne : a ≠ s.heap.objs.size := fun e => by
    have := Heap.lt_size hg0
    rw [e] at this
    exact Nat.lt_irrefl _ this
  refine call_any_walk (W.iter_tupleW (I.ok.hd hc) hl fun s' es _ st _ _ _ => ?_)
  subst es
  refine ⟨_, _, _, _, _, _, _, rfl, PySem.Walks.tuple (A := X.A.in1) (I.ok.hd hc) _ a hne its.toArray, st, truth_intsA hI, fun h2 tk hk => ?_⟩
  refine ⟨.bl (ns.any fun n => n != 0), H, I.kept fun b o eb => hk b o (fun hm => ?_) (Heap.get?_push_of_some _ eb), ?_, q⟩
  · rcases List.mem_cons.mp hm with z | z
    · exact absurd (z ▸ Heap.lt_size eb) (Nat.lt_irrefl _)
    · cases z
  · show Value.bool _ = Value.bool _
    rw [← any_rangeI, List.size_toArray, intsAre_len hI]
theorem cr_anyT (hc : X.calm = true) : CallR X (.builtin "any") (rC X.mg (f1 anyT)) := by
  intro pins s σ H xs us Q I r ⟨A, ds, d, fr, r1, e, q⟩
  obtain ⟨x, rfl, e2⟩ := f1_one e
  clear e
  obtain ⟨v, rfl, rx⟩ := reps_one r1
  cases rx <;> simp only [anyT, reduceCtorEq] at e2
  · rename_i a xs ds h t
    obtain ⟨ns, h1, h2⟩ := Option.map_eq_some_iff.mp e2
    subst h2
    have := ints_of t h1
    subst this
    exact any_tup hc I r (.inl (.inl h)) (q _ H (Same.refl H) (.bl _))
  · rename_i a o xs ds h hd t
    obtain ⟨ns, h1, h2⟩ := Option.map_eq_some_iff.mp e2
    subst h2
    have := ints_of t h1
    subst this
    exact any_tup hc I r (.inl (.inr ⟨_, h⟩)) (q _ H (Same.refl H) (.bl _))
theorem imm_anyT (x y : D) (h : anyT x = some y) : y.imm = true := by
  cases x <;> first | (cases h; done) | (obtain ⟨_, _, z⟩ := Option.map_eq_some_iff.mp h; subst z; rfl)
end
end PV

namespace PV
variable [LT] [RT]
open PySem PySem.Spec PyProof.Rows L2
def zipN : List D → Option (List D)
  | [.lst xs, .tup ys] => some ((xs.zip ys).map fun p => .tup [p.1, p.2])
  | _ => none
def iZn (a : Ax) : Ax := fun e => (a e).bind zipN
abbrev znA (g : Heap) (t : Addr) : Heap := g.push { cls := .type "list_iterator", data := .fields #[.ref t, .int 0 0] }
abbrev znB (g : Heap) (t l : Addr) : Heap := (znA g t).push { cls := .type "tuple_iterator", data := .fields #[.ref l, .int 0 0] }
abbrev znC (g : Heap) (t l : Addr) : Heap := (znB g t l).push { cls := .type "tuple", data := .seq #[.ref g.objs.size, .ref (znA g t).objs.size] }
abbrev znD (g : Heap) (t l : Addr) : Heap := (znC g t l).push { cls := .type "tuple", data := .seq #[.none, .none] }
abbrev znE (g : Heap) (t l : Addr) : Heap := (znD g t l).push { cls := .type "zip", data := .fields #[.none, .bool false, .bool false, .ref (znB g t l).objs.size, .ref (znC g t l).objs.size] }
theorem zn_new (t l : Addr) (us vs : Array Value) :
    Meets (Builtin.«zip.__new__» ⟨[.type "zip", .ref t, .ref l], []⟩) (fun _ R s => (s.heap.IsList t us ∧ s.heap.IsTuple l vs) ∧ R (.ok (.ret (.ref (znD s.heap t l).objs.size))) { s with heap := znE s.heap t l }) :=
  .of_wp fun prog w A R s hyp => by
    obtain ⟨g, gn, dr, tk, os⟩ := s
    obtain ⟨⟨qt, ql⟩, goal⟩ := hyp
    have hsub := sub_zip
    have kt : Heap.IsList (Shared.heap ⟨g, gn, dr, tk, os⟩) t us := qt
    have kl : Heap.IsTuple (Shared.heap ⟨znA g t, gn, dr, tk, os⟩) l vs := ql.at fun o e => Heap.get?_push_of_some _ e
    wp_walk using wpAny_pyIter_list kt, wpAny_pyIter_tuple kl
    exact ⟨_, rfl, goal⟩
section
variable {prog : Program} {w : World} {A : Around} {E : Value → Shared → Prop} {s : Shared}
theorem call_zn {t l : Addr} {us vs : Array Value} {Q : Value → Shared → Prop} (qt : s.heap.IsList t us) (ql : s.heap.IsTuple l vs)
    (fin : ∀ g, IsZip g (s.heap.objs.size + 4) (s.heap.objs.size + 2) (s.heap.objs.size + 3) .none ∧ IsTupOf2 g (s.heap.objs.size + 2) (.ref s.heap.objs.size) (.ref (s.heap.objs.size + 1)) ∧ IsTupOf2 g (s.heap.objs.size + 3) .none .none ∧
      g.IsListIter s.heap.objs.size t 0 ∧ g.IsTupleIter (s.heap.objs.size + 1) l 0 → (∀ c o, s.heap.get? c = some o → g.get? c = some o) → Q (.ref (s.heap.objs.size + 4)) { s with heap := g }) :
    wpAny (model prog w) A (call (.type "zip") [.ref t, .ref l]) Q E s := by
  refine callType_new F.called_zip (by decide) (F.typeCall_zip_2 _ _) (F.newCall_zip_2 _ _) (fun obj => F.args_object_init_3 obj _ _) F.entry_zip_new (zn_new t l us vs) ⟨⟨qt, ql⟩, ?_⟩
  have sA : (znA s.heap t).objs.size = s.heap.objs.size + 1 := Heap.size_push ..
  have sB : (znB s.heap t l).objs.size = s.heap.objs.size + 2 := by rw [Heap.size_push, sA]
  have sC : (znC s.heap t l).objs.size = s.heap.objs.size + 3 := by rw [Heap.size_push, sB]
  have sD : (znD s.heap t l).objs.size = s.heap.objs.size + 4 := by rw [Heap.size_push, sC]
  have up : ∀ {c o}, (znA s.heap t).get? c = some o → (znE s.heap t l).get? c = some o := fun e => Heap.get?_push_of_some _ (Heap.get?_push_of_some _ (Heap.get?_push_of_some _ (Heap.get?_push_of_some _ e)))
  have at0 : (znE s.heap t l).get? s.heap.objs.size = some _ := up (Heap.get?_push_size _ rfl)
  have at1 : (znE s.heap t l).get? (znA s.heap t).objs.size = some _ := Heap.get?_push_of_some _ (Heap.get?_push_of_some _ (Heap.get?_push_of_some _ (Heap.get?_push_size _ rfl)))
  have at2 : (znE s.heap t l).get? (znB s.heap t l).objs.size = some _ := Heap.get?_push_of_some _ (Heap.get?_push_of_some _ (Heap.get?_push_size _ rfl))
  have at3 : (znE s.heap t l).get? (znC s.heap t l).objs.size = some _ := Heap.get?_push_of_some _ (Heap.get?_push_size _ rfl)
  have at4 : (znE s.heap t l).get? (znD s.heap t l).objs.size = some _ := Heap.get?_push_size _ rfl
  show _ ∧ _
  rw [sB, sC, sD] at at4
  rw [sA, sB] at at2
  rw [sC] at at3
  rw [sA] at at1
  rw [sD]
  exact ⟨⟨_, at4, rfl⟩, fin _ ⟨at4, at2, at3, ⟨_, at0, rfl, rfl⟩, ⟨_, at1, rfl, rfl⟩⟩ fun c o x => up (Heap.get?_push_of_some _ x)⟩
end
def ItN (K : PySem.W.Frag) (a b : Addr) : It :=
  ⟨fun i H => ∃ us vs x y, (SqL K H a us ∧ us[i]? = some x) ∧ SqT K H b vs ∧ vs[i]? = some y,
    fun i H v H' => ∃ T x y, v = .ref T ∧ H T = none ∧ H' = upd H T (.tup [x, y]) ∧ (∀ us, SqL K H a us → us[i]? = some x) ∧ ∀ vs, SqT K H b vs → vs[i]? = some y,
    fun i H => ∃ us vs : List V, (SqL K H a us ∧ SqT K H b vs) ∧ (us.length ≤ i ∨ vs.length ≤ i)⟩
theorem turn_zn {P : Program} {w : World} {K : PySem.W.Frag} {elts : List Expr} {kk : Nat} {tpos : Pos} {a b z TI TO i1 i2 : Addr} (S : ZmSep z TI TO i1 i2 a b) :
    Turn P w K (.Tuple elts kk tpos) (ItN K a b) [z, TI, TO, i1, i2] z (fun i h => (IsZip h z TI TO .none ∧ IsTupOf2 h TI (.ref i1) (.ref i2)) ∧ (∃ x y, IsTupOf2 h TO x y) ∧ h.IsListIter i1 a i ∧ h.IsTupleIter i2 b i) where
  mem := by simp
  obj := fun i h st c hc => by
    obtain ⟨⟨kz, kI⟩, ⟨x, y, kO⟩, ⟨oa, ea, _, da⟩, ⟨ob, eb, _, db⟩⟩ := st
    have cs : c = z ∨ c = TI ∨ c = TO ∨ c = i1 ∨ c = i2 := by simpa using hc
    rcases cs with rfl | rfl | rfl | rfl | rfl
    · exact ⟨_, kz, fun v q => nomatch q⟩
    · exact ⟨_, kI, fun v q => nomatch q⟩
    · exact ⟨_, kO, fun v q => nomatch q⟩
    · exact ⟨oa, ea, fun v q => by rw [da] at q; cases q⟩
    · exact ⟨ob, eb, fun v q => by rw [db] at q; cases q⟩
  keep := fun i h h' st k => by
    obtain ⟨⟨kz, kI⟩, ⟨x, y, kO⟩, ka, kb⟩ := st
    exact ⟨⟨k z (by simp) _ kz, k TI (by simp) _ kI⟩, ⟨x, y, k TO (by simp) _ kO⟩, ka.at fun o q => k i1 (by simp) o q, kb.at fun o q => k i2 (by simp) o q⟩
  item := by
    intro X hP hw hK hc i pins s σ H E I hf ⟨⟨kz, kI⟩, ⟨x0, y0, kO⟩, ka, kb⟩ ⟨us, vs, x, y, ⟨qu, hx⟩, qv, hy⟩
    subst hP hw hK
    obtain ⟨itu, ru, pu, _⟩ := I.list qu
    obtain ⟨itv, rv, pv, _⟩ := I.tuple qv
    obtain ⟨u1, e1, r1⟩ := ru.get hx
    obtain ⟨u2, e2, r2⟩ := rv.get hy
    obtain ⟨g1, g2, g3, g4, g5, g6, g7, g8, g9, g10, g11, g12, g13, g14, g15, g16, g17, g18⟩ := S.all
    have lz : z < s.heap.objs.size := Heap.lt_size kz
    have lO : TO < s.heap.objs.size := Heap.lt_size kO
    have l1 : i < itu.toArray.size := by rw [List.size_toArray]; exact (List.getElem?_eq_some_iff.mp e1).1
    have l2 : i < itv.toArray.size := by rw [List.size_toArray]; exact (List.getElem?_eq_some_iff.mp e2).1
    have hd : X.A.in1.handled = none := I.ok.hd hc
    refine wpAny_pyNext_zipD2_item S.sep (Draws.list hd i1 a g13 itu.toArray) (Draws.tuple hd i2 b g18 itv.toArray) kz kI kO ⟨ka, pu.isList⟩ ⟨kb, pv⟩ l1 l2 fun w1 w2 h' tk f1 f2 kz' kO' st1 st2 hT hsz hk => ?_
    have e1' : w1 = u1 := by
      have z1 : itu.toArray[i]? = some u1 := by simpa using e1
      rw [z1] at f1; cases f1; rfl
    have e2' : w2 = u2 := by
      have z1 : itv.toArray[i]? = some u2 := by simpa using e2
      rw [z1] at f2; cases f2; rfl
    subst e1' e2'
    refine ⟨_, rfl, wpAny_letOwnedTupleGo_zip (s := { s with heap := h', toks := tk }) kz' fun h2 kz2 sb => ?_⟩
    have hT2 : h2.get? s.heap.objs.size = some { cls := .type "tuple", data := .seq #[w1, w2] } := (sb.2 _ (Nat.ne_of_gt lz)).trans hT
    have ok2 : ObjOk X.prog X.w (upd H s.heap.objs.size (.tup [x, y])) h2 s.heap.objs.size (.tup [x, y]) := ⟨by show 2 ≤ sizeLine; decide, [w1, w2], .cons r1 (.cons r2 .nil), ⟨_, hT2, rfl, _, rfl⟩⟩
    have I2 : Inv X pins σ (upd H s.heap.objs.size (.tup [x, y])) { s with heap := h2, toks := tk } :=
      I.turnedNew (ch := [z, TI, TO, i1, i2]) (fun c o hb q => (sb.2 c (fun n => hb (by simp [n]))).trans (hk c o (fun n => hb (by simp [n])) (fun n => hb (by simp [n])) (fun n => hb (by simp [n])) (fun n => hb (by simp [n])) q)) hf (Nat.le_refl _) ok2
    refine ⟨.ref s.heap.objs.size, _, I2, rfl, ⟨_, x, y, rfl, I.hok.fresh (Nat.le_refl _), rfl, fun l hl => by rw [I.list_inj hl qu]; exact hx, fun l hl => by rw [I.tuple_inj hl qv]; exact hy⟩, ⟨⟨kz2, (sb.2 _ g1).trans (hk _ _ g1 g3 g4 g5 kI)⟩, ⟨w1, w2, (sb.2 _ g2).trans kO'⟩, st1.1.at fun o q => (sb.2 _ g6).trans q, st2.1.at fun o q => (sb.2 _ g7).trans q⟩, fun c hcm => ?_⟩
    have lc : c < s.heap.objs.size := by
      have cs : c = z ∨ c = TI ∨ c = TO ∨ c = i1 ∨ c = i2 := by simpa using hcm
      rcases cs with rfl | rfl | rfl | rfl | rfl
      · exact lz
      · exact Heap.lt_size kI
      · exact lO
      · obtain ⟨_, q, _⟩ := ka; exact Heap.lt_size q
      · obtain ⟨_, q, _⟩ := kb; exact Heap.lt_size q
    rw [upd_ne (Nat.ne_of_lt lc)]
    exact (hf c hcm).1
  done := by
    intro X hP hw hK hc i pins s σ H E I hf ⟨⟨kz, kI⟩, ⟨x0, y0, kO⟩, ka, kb⟩ ⟨us, vs, ⟨qu, qv⟩, hend⟩
    subst hP hw hK
    obtain ⟨itu, ru, pu, _⟩ := I.list qu
    obtain ⟨itv, rv, pv, _⟩ := I.tuple qv
    obtain ⟨g1, g2, g3, g4, g5, g6, g7, g8, g9, g10, g11, g12, g13, g14, g15, g16, g17, g18⟩ := S.all
    have hd : X.A.in1.handled = none := I.ok.hd hc
    have n1 : itu.toArray.size = us.length := by rw [List.size_toArray, ← ru.length]
    have n2 : itv.toArray.size = vs.length := by rw [List.size_toArray, ← rv.length]
    have fin : ∀ h' tk, (∀ c o, c ≠ z → c ≠ TO → c ≠ i1 → c ≠ i2 → s.heap.get? c = some o → h'.get? c = some o) → (none : Option Value) = none ∧ Inv X pins σ H { s with heap := h', toks := tk } := fun h' tk hk => ⟨rfl, I.turnedL (ch := [z, TI, TO, i1, i2]) (fun c o hb q => hk c o (fun n => hb (by simp [n])) (fun n => hb (by simp [n])) (fun n => hb (by simp [n])) (fun n => hb (by simp [n])) q) hf⟩
    by_cases c1 : us.length ≤ i
    · by_cases c2 : vs.length ≤ i
      · exact wpAny_pyNext_zipD2_end S.sep (draws_endL hd (items := itu.toArray) (i := i) (by omega)) (draws_end hd (items := itv.toArray) (i := i) (by omega)) kz kI kO ⟨rfl, ka, pu.isList⟩ ⟨rfl, kb, pv⟩ (Nat.le_refl _) (Nat.le_refl _) (.inl rfl) fin
      · exact wpAny_pyNext_zipD2_end S.sep (draws_endL hd (items := itu.toArray) (i := i) (by omega)) (Draws.tuple hd i2 b g18 itv.toArray) kz kI kO ⟨rfl, ka, pu.isList⟩ ⟨kb, pv⟩ (Nat.le_refl _) (by omega) (.inl rfl) fin
    · have c2 : vs.length ≤ i := hend.resolve_left c1
      exact wpAny_pyNext_zipD2_end S.sep (Draws.list hd i1 a g13 itu.toArray) (draws_end hd (items := itv.toArray) (i := i) (by omega)) kz kI kO ⟨ka, pu.isList⟩ ⟨rfl, kb, pv⟩ (by omega) (Nat.le_refl _) (.inr rfl) fin
  self := fun A i s Q E st h => wpAny_pyIter_zip st.1.1 h
section
variable {X : Cx}
def tZipN (K : PySem.W.Frag) (ta : TA) : TI := fun σ H R => ta σ H fun vs H1 => ∃ a b us ws, vs = [.ref a, .ref b] ∧ (SqL K H1 a us ∧ SqT K H1 b ws) ∧ R (ItN K a b) H1
theorem pi_zipN {e1 e2 : Expr} {ta : TA} {p pos tpos : Pos} {elts : List Expr} {kk : Nat} (hg : Gl X "zip") (hm : X.mg "zip" = none) (ha : PA X [e1, e2] ta) (hs : starEach [e1, e2] X.env = (false, eval e1 X.env) :: starEach [e2] X.env := by rfl) (hpl : (backTo pos (starEach [e2] X.env)).any (·.1) = false := by rfl) :
    PI X (.Tuple elts kk tpos) (.Call (.Name "zip" p) [e1, e2] [] pos) (tZipN X.K ta) := ⟨fun pins s σ H R I h => by
  refine Call_ (ld_blt I hg hm PyProof.Rows.boot_zip (PyProof.Rows.callWith_type1 (thn (ha.run pos pins s σ H _ I h) fun us s1 ⟨vs, H1, I1, r1, a, b, xs, ys, ex, ⟨qx, qy⟩, q⟩ => ?_) hs hpl))
  subst ex
  obtain ⟨w1, w2, ew, rx, ry⟩ := vals2 r1
  subst ew
  cases rx
  cases ry
  obtain ⟨itu, ru, pu, _⟩ := I1.list qx
  obtain ⟨itv, rv, pv, _⟩ := I1.tuple qy
  have la : a < s1.heap.objs.size := by obtain ⟨o, ho, _⟩ := pu.isList; exact Heap.lt_size ho
  have lb : b < s1.heap.objs.size := by obtain ⟨o, ho, _⟩ := id pv; exact Heap.lt_size ho
  refine call_zn pu.isList pv fun g ⟨kz, kI, kO, ka, kb⟩ hk => wpAny_pyIter_zip kz ?_
  refine ⟨s1.heap.objs.size + 4, [s1.heap.objs.size + 4, s1.heap.objs.size + 2, s1.heap.objs.size + 3, s1.heap.objs.size, s1.heap.objs.size + 1], _, _, H1, rfl, I1.kept (t' := s1.toks) hk, turn_zn ⟨?_⟩, ⟨⟨kz, kI⟩, ⟨_, _, kO⟩, ka, kb⟩, fun c hcm => ?_, q⟩
  · exact (zm_sep _ _ _ la lb).all
  · have hle : s1.heap.objs.size ≤ c := by
      have cs : c = s1.heap.objs.size + 4 ∨ c = s1.heap.objs.size + 2 ∨ c = s1.heap.objs.size + 3 ∨ c = s1.heap.objs.size ∨ c = s1.heap.objs.size + 1 := by simpa using hcm
      rcases cs with rfl | rfl | rfl | rfl | rfl
      · exact Nat.le_add_right _ _
      · exact Nat.le_add_right _ _
      · exact Nat.le_add_right _ _
      · exact Nat.le_refl _
      · exact Nat.le_add_right _ _
    exact I1.fpOk hle (I1.hok.fresh hle)⟩
theorem si_zipN {e1 e2 : Expr} {elts : List Expr} {kk : Nat} {da : Ax} {p pos tpos : Pos} (hm : X.mg "zip" = none) (ha : SA X false [e1, e2] da) (hg : Gl X "zip" := by rfl)
    (hs : starEach [e1, e2] X.env = (false, eval e1 X.env) :: starEach [e2] X.env := by rfl) (hpl : (backTo pos (starEach [e2] X.env)).any (·.1) = false := by rfl) : SI X (.Tuple elts kk tpos) (.Call (.Name "zip" p) [e1, e2] [] pos) (iZn da) := (pi_zipN hg hm ha hs hpl).weak fun σ H R ⟨B, O, env, ds, r, h1, q⟩ => by
  obtain ⟨xs, hx, h2⟩ := bnd h1
  refine ⟨B, O, env, xs, r, hx, fun vs H1 s1 r1 => ?_⟩
  unfold zipN at h2
  split at h2
  · rename_i xs ys
    cases h2
    obtain ⟨v, w, rfl, r2, r3⟩ := reps_pair r1
    obtain ⟨a, us, rfl, ha, hA, ta⟩ := r2.lst_inv
    obtain ⟨b, ws, rfl, hB, tb⟩ := r3.tup_inv
    refine ⟨a, b, us, ws, rfl, ⟨.inl (.inl hA), .inl (.inl hB)⟩, q _ H1 s1 fun i H k => ?_⟩
    have qa : SqL X.K H a us := .inl (.inl (k.lst a us ⟨ha, _, hA⟩ hA))
    have qb : SqT X.K H b ws := .inl (.inl (k.tup b ws hB))
    refine ⟨fun x e => ?_, fun e => ⟨us, ws, ⟨qa, qb⟩, zip_end ta tb e⟩⟩
    obtain ⟨x', y', rfl, v, w, g1, g2, g3, g4⟩ := zip_at (reps_tr ta) (reps_tr tb) e
    refine ⟨⟨us, ws, v, w, ⟨qa, g1⟩, qb, g3⟩, fun v' H' ⟨T, x, y, e1, e2, e3, e4, e5⟩ => ?_⟩
    subst e1 e3
    have z1 := e4 us qa
    have z2 := e5 ws qb
    rw [g1] at z1; rw [g3] at z2
    cases z1; cases z2
    exact ⟨same_upd e2, .tup upd_same (.cons ((g2.mono (fun _ z => z) k).same (same_upd e2)) (.cons ((g4.mono (fun _ z => z) k).same (same_upd e2)) .nil))⟩
  · cases h2
end
end PV

namespace PV
variable [LT] [RT]
open PySem PySem.Spec PyProof.Rows L2
def forEe (it : DEnv → Option (List D × DEnv)) (g : Tg) (b : Sx) : Sx := fun e => (it e).bind fun p => loop (gD g) b p.1 p.2
def iRngE (a : Ee) : DEnv → Option (List D × DEnv) := fun e => (a e).bind fun p => (rngL [p.1]).map fun l => (l, p.2)
def asgEe (g : Tg) (a : Ee) : Sx := fun e => (a e).bind fun p => (gD g p.1 p.2).map .nx
def booE (t : Et) : Ee := fun e => (t e).map fun p => (.bl p.1, p.2)
def andVE (a b : Ee) : Ee := fun e => (a e).bind fun p => match p.1 with
  | .bl true => b p.2
  | .bl false => some (.bl false, p.2)
  | _ => none
def bE (f : D → Option D) (a : Ee) : Ee := fun e => (a e).bind fun p => (f p.1).map fun d => (d, p.2)
def tIE (K : PySem.W.Frag) (mg : Str → Option Value) (di : DEnv → Option (List D × DEnv)) : TI := fun σ H R => ∃ B O env ds env', ERel K mg B O σ H env ∧ di env = some (ds, env') ∧ ∀ J H', ERel K mg B O σ H' env' → Fm O H O H' → Walks mg (fun a => Lv B O false a ∧ ∃ o, H' a = some o) J ds H' → R J H'
section
variable {X : Cx} {τ : Bool}
abbrev SIE (X : Cx) (tg e : Expr) (di : DEnv → Option (List D × DEnv)) : Prop := PI X tg e (tIE X.K X.mg di)
theorem si_rngE {tg a : Expr} {da : Ee} {p pos : Pos} (hm : X.mg "range" = none) (ha : EE X a da) (hg : Gl X "range" := by rfl) (hs : starEach [a] X.env = [(false, eval a X.env)] := by rfl) : SIE X tg (.Call (.Name "range" p) [a] [] pos) (iRngE da) :=
  (pi_range1 hg hm (ea_cons ha ea_nil hs) hs).weak fun σ H R ⟨B, O, env, ds, env', r, e, q⟩ => by
  obtain ⟨⟨d, e1⟩, hl, h2⟩ := bnd e
  obtain ⟨l, h3, h4⟩ := Option.map_eq_some_iff.mp h2
  cases h4
  refine ⟨B, O, env, [d], e1, r, by show (da env).bind _ = _; rw [hl]; rfl, fun vs H1 r1 f1 rs => ?_⟩
  obtain ⟨v, rfl, rv⟩ := reps_one rs
  cases d <;> simp only [rngL, reduceCtorEq] at h3
  split at h3
  · rename_i n hz
    cases h3
    cases rv
    simp only [decide_eq_true_eq] at hz
    refine ⟨n, rfl, hz.1, hz.2, q _ H1 r1 f1 ?_⟩
    have := walks_range (mg := X.mg) (A := fun a => Lv B O false a ∧ ∃ o, H1 a = some o) (H1 := H1) (lo := 0) (n := n.toNat)
    simpa using this
  · cases h3
theorem s_forE {tg iter : Expr} {body : List Stmt} {di : DEnv → Option (List D × DEnv)} {g : Tg} {db : Sx} {pos : Pos} (hp : PassesOwn (model X.prog X.w) X.A X.env X.xe) (hc : X.calm = true) (hi : SIE X tg iter di) (hg : PT1 X tg g) (hb : SSs X body db)
    (hs : ∀ x, foldedSetIterable iter X.env x = pure x := by intro _; rfl) : SS X (.For tg iter body [] pos) (forEe di g db) := (ps_for hp hc hi hg hb hs).weak fun D σ H ⟨B, O, env, r, rl, h1, q⟩ => by
  obtain ⟨⟨ds, env'⟩, hd, h2⟩ := bnd h1
  refine ⟨B, O, env, ds, env', rl, hd, fun J H1 rl1 f1 wk => ?_⟩
  have q1 := q.trans f1
  refine ⟨fun i m σ' H' => m = ds.length - i ∧ i ≤ ds.length ∧ ∃ O' env', ERel X.K X.mg B O' σ' H' env' ∧ Fm O H1 O' H' ∧ loop (gD g) db (ds.drop i) env' = some r, ⟨ds.length, by simp, Nat.zero_le _, O, env', rl1, Fm.of_same (Same.refl H1), by simpa using h2⟩, ?_⟩
  rintro i m σ' H' ⟨rfl, hi', O', env', rl', f', hl⟩
  have kp : Keep (fun a => Lv B O false a ∧ ∃ o, H1 a = some o) H1 H' := let k := fm_keep rl1 f'; ⟨fun a u ha _ h => k.rd a u ha.1 h, fun a C dx fs ha h => k.ins a C dx fs ha.1 h, fun a xs ha h => k.lst a xs ha.1 h, k.tup, k.fz⟩
  by_cases hlt : i < ds.length
  · have hx : ds[i]? = some ds[i] := List.getElem?_eq_getElem hlt
    obtain ⟨go, yl⟩ := (wk i H' kp).1 _ hx
    rw [List.drop_eq_getElem_cons hlt] at hl
    unfold loop at hl
    obtain ⟨e1, he1, hl⟩ := bnd hl
    obtain ⟨r1, hr1, hl⟩ := bnd hl
    refine .inr ⟨go, fun σ'' H'' => ∃ O'' env'', ERel X.K X.mg B O'' σ'' H'' env'' ∧ Fm O H1 O'' H'' ∧ loop (gD g) db (ds.drop (i + 1)) env'' = some r, fun σ'' H'' ⟨O'', env'', z⟩ => ⟨ds.length - (i + 1), by omega, rfl, hlt, O'', env'', z⟩, fun v H3 y => ?_⟩
    obtain ⟨s3, rv⟩ := yl v H3 y
    have rl3 := rl'.heap s3
    have f3 := f'.trans (Fm.of_same s3)
    have rv' : Rep X.mg (Lv B O' false) H3 v ds[i] := by
      exact rv.mono (fun a ha => lv_sub f' ha.1 ha.2) keepRefl
    refine tgR_ok g rl3 rv' he1 fun σ4 O4 r4 f4 _ => ⟨B, O4, e1, r1, r4, hr1, ?_⟩
    have f5 := f3.trans f4
    cases r1 with
    | nx e2 => exact fun σ6 H6 O6 rl6 f6 => ⟨O6, e2, rl6, f5.trans f6, hl⟩
    | ct e2 => exact fun σ6 H6 O6 rl6 f6 => ⟨O6, e2, rl6, f5.trans f6, hl⟩
    | bk e2 =>
      cases hl
      exact fun σ6 H6 O6 rl6 f6 => q1 σ6 H6 O6 rl6 (f5.trans f6)
    | ret d =>
      cases hl
      exact q1
  · refine .inl ⟨(wk i H' kp).2 (List.getElem?_eq_none (by omega)), ?_⟩
    rw [List.drop_eq_nil_of_le (by omega)] at hl
    cases hl
    exact q1 σ' H' O' rl' f'
theorem s_asgEe {tg e : Expr} {de : Ee} {g : Tg} {pos : Pos} (he : EE X e de) (hg : PT1 X tg g) (hs : swapsWithSole [tg] e pos.line X.env = pure false := by rfl) (hw : swappedStores [tg] e X.env = pure none := by rfl)
    (h1 : (assignEach [tg] X.env).map (·.2) = [assign tg X.env] := by rfl) : SS X (.Assign [tg] e pos) (asgEe g de) := (ps_asg he hg hs hw h1).weak fun D σ H ⟨B, O, env, r, rl, h1, q⟩ => by
  obtain ⟨⟨d, e1⟩, hd, h2⟩ := bnd h1
  obtain ⟨e', he', h3⟩ := Option.map_eq_some_iff.mp h2
  cases h3
  exact ⟨B, O, env, d, e1, rl, hd, fun v H1 r1 f1 rv => tgR_ok g r1 rv he' fun σ' O' r' f' _ => q σ' H1 O' r' (f1.trans f')⟩
theorem ee_cmpV {f : D → D → Option Bool} {op : CmpOp} {a b : Expr} {da db : Ee} {pos : Pos} (ho : OpR X (compareOp op) (rB X.mg f)) (ha : EE X a da) (hb : EE X b db) (hm : behindInMarks op b = false := by first | exact nomark _ | rfl) : EE X (.Compare a [op] [b] pos) (booE (cmpE f da db)) :=
  (pe_cmpR ho ha hb hm).weak fun σ H Q ⟨B, O, env, d, env', r, h1, q⟩ => by
  obtain ⟨⟨c, e'⟩, hc, h2⟩ := Option.map_eq_some_iff.mp h1
  cases h2
  obtain ⟨⟨x, e1⟩, hx, h1⟩ := bnd hc
  obtain ⟨⟨y, e2⟩, hy, h1⟩ := bnd h1
  obtain ⟨c', hc', h2⟩ := Option.map_eq_some_iff.mp h1
  cases h2
  refine ⟨B, O, env, x, e1, r, hx, fun v H1 r1 f1 rv => ⟨B, O, e1, y, e2, r1, hy, fun w H2 r2 f2 rw' => ?_⟩⟩
  exact ⟨_, x, y, c, rv.mono (fun _ z => z) (keep_fm r1 f2), rw', hc', q _ H2 r2 (f1.trans f2) (.bl c)⟩
theorem ee_one {op : PySem.BoolOp} {a : Expr} {da : Ee} {pos : Pos} (h : EE X a da) : EE X (.BoolOp op [a] pos) da := pe_one h
theorem ee_and {a b : Expr} {rest : List Expr} {da db : Ee} {pos : Pos} (h1 : EE X a da) (h2 : EE X (.BoolOp .And (b :: rest) pos) db) : EE X (.BoolOp .And (a :: b :: rest) pos) (andVE da db) := (pe_and h1 h2).weak fun σ H Q ⟨B, O, env, d, env', r, e, q⟩ => by
  obtain ⟨⟨x, e1⟩, hx, e⟩ := bnd e
  refine ⟨B, O, env, x, e1, r, hx, fun v H1 r1 f1 rv => ?_⟩
  dsimp only at e
  split at e
  · cases rv
    exact ⟨_, rfl, iteT ⟨B, O, e1, d, env', r1, e, fun v H2 r2 f2 rv2 => q v H2 r2 (f1.trans f2) rv2⟩⟩
  · cases rv
    cases e
    exact ⟨_, rfl, iteF (q _ H1 r1 f1 (.bl _))⟩
  · cases e
theorem ee_bty {f : D → Option D} {T : String} {x : Str} {e : Expr} {de : Ee} {p pos : Pos} (hc : CallR X (.type T) (rC X.mg (f1 f))) (hm : X.mg x = none) (hv : bootBuiltins x = some (.type T)) (ha : EE X e de) (hg : Gl X x := by rfl) (hn : x ≠ "__name__" := by decide) (hdb : (x == ("__debug__" : Str)) = false := by decide)
    (he : starEach [e] X.env = [(false, eval e X.env)] := by rfl) (hpl : (backTo pos (starEach [] X.env)).any (·.1) = false := by rfl) : EE X (.Call (.Name x p) [e] [] pos) (bE f de) := (pe_callTy hc hg hm hv (ea_cons ha ea_nil he) hn hdb he hpl).weak fun σ H Q ⟨B, O, env, d, env', r, h1, q⟩ => by
  obtain ⟨⟨x, e1⟩, hx, h2⟩ := bnd h1
  obtain ⟨d', hd, h3⟩ := Option.map_eq_some_iff.mp h2
  cases h3
  refine ⟨B, O, env, [x], e1, r, by show (de env).bind _ = _; rw [hx]; rfl, fun vs H1 r1 f1 rs => ?_⟩
  exact ⟨_, [x], d, r1.fr, rs, hd, fun v H' s' rv => q v H' (r1.heap s') (f1.trans (Fm.of_same s')) rv⟩
end
end PV

namespace PV
variable [LT] [RT]
open PySem PySem.Spec PyProof.Rows L2
def splC (c : Nat) : List Nat → List (List Nat)
  | [] => [[]]
  | x :: l => if x = c then [] :: splC c l else match splC c l with
    | [] => [[x]]
    | p :: ps => (x :: p) :: ps
def splD : D → D → Option D
  | .str a, .str b => match b.cps.toList with
    | [c] => if a.length + 2 ≤ szL then some (.lst ((splC c a.cps.toList).map fun w => .str ⟨w.toArray⟩)) else none
    | _ => none
  | _, _ => none
def inxD : D → D → Option D
  | .str a, .str b => match b.cps.toList with
    | [c] => if c ∈ a.cps.toList then some (.int (a.cps.toList.idxOf c : Nat)) else none
    | _ => none
  | _, _ => none
theorem splC_free {c : Nat} : ∀ {l : List Nat}, c ∉ l → splC c l = [l]
  | [], _ => rfl
  | x :: l, h => by
    have h1 : x ≠ c := fun e => h (e ▸ List.mem_cons_self)
    have h2 : c ∉ l := fun e => h (List.mem_cons_of_mem _ e)
    unfold splC
    rw [if_neg h1, splC_free h2]
theorem splC_app {c : Nat} : ∀ {p : List Nat} {r : List Nat}, c ∉ p → splC c (p ++ c :: r) = p :: splC c r
  | [], r, _ => by
    show splC c (c :: r) = _
    unfold splC
    rw [if_pos rfl]
    cases r <;> rfl
  | x :: p, r, h => by
    have h1 : x ≠ c := fun e => h (e ▸ List.mem_cons_self)
    have h2 : c ∉ p := fun e => h (List.mem_cons_of_mem _ e)
    show splC c (x :: (p ++ c :: r)) = _
    rw [splC, if_neg h1, splC_app h2]
theorem splC_join {c : Nat} : ∀ (xs : List Str), xs ≠ [] → (∀ x ∈ xs, c ∉ x.cps.toList) → splC c (PySem.Str.join ⟨#[c]⟩ xs).cps.toList = xs.map fun x => x.cps.toList
  | [], h, _ => absurd rfl h
  | [x], _, h => by
    show splC c x.cps.toList = _
    rw [splC_free (h x List.mem_cons_self)]
    rfl
  | x :: y :: l, _, h => by
    have ih := splC_join (y :: l) (by simp) fun z hz => h z (List.mem_cons_of_mem _ hz)
    have e : (PySem.Str.join ⟨#[c]⟩ (x :: y :: l)).cps.toList = x.cps.toList ++ c :: (PySem.Str.join ⟨#[c]⟩ (y :: l)).cps.toList := by
      show (x.cps ++ #[c] ++ (PySem.Str.join ⟨#[c]⟩ (y :: l)).cps).toList = _
      simp
    rw [e, splC_app (h x List.mem_cons_self), ih]
    rfl
theorem txt_split (a : Str) (c : Nat) : Txt.split a ⟨#[c]⟩ = (splC c a.cps.toList).map fun w => (⟨w.toArray⟩ : Str) := by
  have h0 : Txt.split a ⟨#[c]⟩ ≠ [] := fun z => by
    have := PyProof.Rows.split_pos a ⟨#[c]⟩
    rw [z] at this
    simp at this
  have h := splC_join (c := c) (Txt.split a ⟨#[c]⟩) h0 (fun p hp => StrLaws.split_free a c p hp)
  rw [StrLaws.join_split] at h
  rw [h, List.map_map]
  conv => lhs; rw [← List.map_id (Txt.split a ⟨#[c]⟩)]
  exact List.map_congr_left fun x _ => by cases x; rfl
theorem occ_full (s sub : Str) (hi : Nat) : ∀ (l : List Nat) (st : Array Nat × Nat), 1 ≤ st.fst.size → (forIn l st (StrLaws.occBody s sub hi 1)).run.fst = st.fst
  | [], st, _ => rfl
  | a :: l, st, h => by
    rw [List.forIn_cons]
    unfold StrLaws.occBody
    rw [if_neg (fun z => by have := z.1.1.1; omega)]
    exact occ_full s sub hi l _ h
theorem occ_hit (s sub : Str) (hi j : Nat) (hj : j + sub.length ≤ hi ∧ Builtin.Str.subAt s sub j = true) : ∀ (n a free : Nat), free ≤ a → a ≤ j → j < a + n → (∀ i, a ≤ i → i < j → ¬ (i + sub.length ≤ hi ∧ Builtin.Str.subAt s sub i = true)) → (forIn (List.range' a n) ((#[] : Array Nat), free) (StrLaws.occBody s sub hi 1)).run.fst = #[j]
  | 0, a, _, _, h1, h2, _ => by omega
  | n + 1, a, free, h0, h1, h2, hn => by
    rw [List.range'_succ, List.forIn_cons]
    unfold StrLaws.occBody
    by_cases e : a = j
    · subst e
      have c1 : (((#[] : Array Nat), free).fst.size < 1 ∧ ((#[] : Array Nat), free).snd ≤ a) ∧ a + sub.length ≤ hi := ⟨⟨by simp, h0⟩, hj.1⟩
      rw [if_pos ⟨c1, hj.2⟩]
      exact occ_full s sub hi _ (#[a], a + sub.length) (by simp)
    · have hc := hn a (Nat.le_refl _) (by omega)
      rw [if_neg (fun z => hc ⟨z.1.2, z.2⟩)]
      exact occ_hit s sub hi j hj n (a + 1) free (by omega) (by omega) (by omega) fun i hi1 hi2 => hn i (by omega) hi2
theorem occ_first {a : Str} {c : Nat} (h : c ∈ a.cps.toList) : Builtin.Str.occurrences a ⟨#[c]⟩ 0 a.length 1 = [a.cps.toList.idxOf c] := by
  have hlt := List.idxOf_lt_length_of_mem h
  have hg : a.cps.toList[a.cps.toList.idxOf c]? = some c := by
    rw [List.getElem?_eq_getElem hlt, List.getElem_idxOf]
  have hl : a.cps.toList.length = a.length := by simp [Str.length]
  rw [StrLaws.occ_eq, occ_hit a ⟨#[c]⟩ a.length (a.cps.toList.idxOf c) ((StrLaws.subAt_one a c _).mpr hg) _ 0 0 (Nat.le_refl _) (Nat.zero_le _) (by omega)]
  intro i _ hi hc
  have := (StrLaws.subAt_one a c i).mp hc
  have hi2 : i < a.cps.toList.length := by omega
  rw [List.getElem?_eq_getElem hi2] at this
  have hne := List.not_of_lt_findIdx (p := (· == c)) (xs := a.cps.toList) (i := i) hi
  rw [beq_eq_false_iff_ne] at hne
  exact hne (Option.some.inj this)
theorem reps_strs {mg : Str → Option Value} {A : Addr → Prop} {H : Hp} : ∀ l : List (List Nat), Reps mg A H ((l.map fun w => (⟨w.toArray⟩ : Str)).map V.str) (l.map fun w => D.str ⟨w.toArray⟩)
  | [] => .nil
  | _ :: l => .cons (.str _) (reps_strs l)
section
variable {X : Cx} {τ : Bool}
theorem sn_split {o e : Expr} {do_ de : Ex} {apos pos : Pos} (ho : SE X true o do_) (he : SE X true e de) (hs : starEach [e] X.env = [(false, eval e X.env)] := by rfl) (hb : attributeBase o "split" X.env (eval o X.env) = eval o X.env := by rfl) (hl : (apos.endLine == pos.line) = true := by rfl) :
    SN X (.Call (.Attribute o "split" apos) [e] [] pos) (op2 splD do_ de) := (pe_split ho he hs hb hl).weak fun σ H Q ⟨B, O, env, d, r, h1, q⟩ => by
  obtain ⟨x, hx, h2⟩ := bnd h1
  obtain ⟨y, hy, h3⟩ := bnd h2
  clear h1 h2
  refine ⟨B, O, env, x, r, hx, fun v H1 s1 r1 => ?_⟩
  cases x <;> simp only [splD, reduceCtorEq] at h3
  rename_i a
  cases y <;> simp only [splD, Option.bind_some, reduceCtorEq] at h3
  rename_i b
  split at h3
  · rename_i c hbc
    split at h3
    · rename_i hle
      cases h3
      cases r1
      refine ⟨⟨_, rfl⟩, B, O, env, _, r.heap s1, hy, fun w H2 s2 r2 => ?_⟩
      cases r2
      have hb : b = ⟨#[c]⟩ := by
        cases b with
        | mk cps => exact congrArg Str.mk (Array.toList_inj.mp hbc)
      subst hb
      refine ⟨a, ⟨#[c]⟩, rfl, rfl, rfl, by have := szL_ok hle; exact this, fun p hp => ?_⟩
      rw [txt_split]
      have h0 : H p = none := Same.free (s1.trans s2) hp
      refine q p _ ((s1.trans s2).trans (same_upd hp)) h0 (.lst upd_same (reps_strs _))
    · cases h3
  · cases h3
theorem se_sindex {o e : Expr} {do_ de : Ex} {apos pos : Pos} (ho : SE X true o do_) (he : SE X true e de) (hs : starEach [e] X.env = [(false, eval e X.env)] := by rfl) (hb : attributeBase o "index" X.env (eval o X.env) = eval o X.env := by rfl) (hl : (apos.endLine == pos.line) = true := by rfl) :
    SE X τ (.Call (.Attribute o "index" apos) [e] [] pos) (op2 inxD do_ de) := (pe_m1 PySem.F.slot_str_index PySem.F.type_str_index mt_sindex ho he hs hb hl).weak fun σ H Q ⟨B, O, env, d, r, h1, q⟩ => by
  obtain ⟨x, hx, h2⟩ := bnd h1
  obtain ⟨y, hy, h3⟩ := bnd h2
  clear h1 h2
  refine ⟨B, O, env, x, r, hx, fun v H1 s1 r1 => ?_⟩
  cases x <;> simp only [inxD, reduceCtorEq] at h3
  rename_i a
  cases y <;> simp only [inxD, Option.bind_some, reduceCtorEq] at h3
  rename_i b
  split at h3
  · rename_i c hbc
    split at h3
    · rename_i hm
      cases h3
      cases r1
      refine ⟨⟨_, rfl⟩, B, O, env, _, r.heap s1, hy, fun w H2 s2 r2 => ?_⟩
      cases r2
      have hb : b = ⟨#[c]⟩ := by
        cases b with
        | mk cps => exact congrArg Str.mk (Array.toList_inj.mp hbc)
      subst hb
      exact ⟨a, ⟨#[c]⟩, _, [], rfl, rfl, occ_first hm, q _ H2 (s1.trans s2) (.int _)⟩
    · cases h3
  · cases h3
theorem pss_never {sts : List Stmt} : PSs X sts (fun _ _ _ => False) := ⟨fun pins s σ H D I h => h.elim⟩
theorem s_try {x : Str} {C : Value} {np pos pos' : Pos} {body suite : List Stmt} {b₀ : Stmt} {db : Sx} (hm : X.mg x = some C) (hb : ∀ (pn : List (Addr × Obj)) (xe : Value → Shared → Prop), SSs (X.tr pn xe) body db) (hg : Gl X x := by rfl) (hd : (x == ("__debug__" : Str)) = false := by decide) (hs : X.stack = X.env :: X.outer := by rfl) (hf : X.env.frame = some X.env.locals := by rfl) :
    SS X (.Try body [.ExceptHandler (some (.Name x np)) none (b₀ :: suite) pos'] [] [] pos) db :=
  ps_try_only (tb := fun _ => tS X.K X.mg db) (ts := fun _ _ _ _ _ _ => False) hs hf ⟨hg, hd, .inl hm⟩ LamX.takes0 (fun _ pn xe _ _ => hb pn xe) (fun _ _ _ _ _ _ _ => pss_never)
end
end PV

namespace PV
variable [LT] [RT]
open PySem PySem.Spec PyProof.Rows L2
def inTS : D → D → Option Bool
  | .str x, .tup ys => (strsOf ys).map fun l => l.any fun z => z == x
  | _, _ => none
theorem inV_S (i : Str) : ∀ ns : List Str, inV (.str i) (ns.map V.str) = ns.any fun z => z == i
  | [] => rfl
  | n :: r => by
    have := inV_S i r
    unfold inV at this ⊢
    simp only [List.map_cons, List.any_cons, this]
    rfl
theorem flat_S : ∀ ns : List Str, (ns.map V.str).all flatV = true
  | [] => rfl
  | _ :: r => by rw [List.map_cons, List.all_cons, flat_S r]; rfl
section
variable {X : Cx} {τ : Bool}
theorem op_ninTS : OpR X (compareOp .NotIn) (rB X.mg (neg inTS)) := by
  intro pins s σ H x y v u Q I rx ry ⟨A, dx, dy, b, r1, r2, e, q⟩
  unfold neg at e
  cases r1 <;> simp only [inTS, reduceCtorEq, Option.map_none] at e
  cases r2 <;> simp only [inTS, reduceCtorEq, Option.map_none] at e
  rename_i h t
  obtain ⟨c, hc, e⟩ := Option.map_eq_some_iff.mp e
  obtain ⟨l, hl, hc⟩ := Option.map_eq_some_iff.mp hc
  subst hc
  subst e
  have := strs_rep t hl
  subst this
  refine op_notIn_seq pins s σ H _ _ v u Q I rx ry ⟨_, _, rfl, .inr (.inl (.inl h)), rfl, flat_S _, ?_⟩
  rw [inV_S]
  exact q
end
end PV

namespace PV
open PySem PySem.Spec PyProof.Rows L2
section
variable {P : Program} {w : World} {K : PySem.W.Frag} {mg : Str → Option Value} {base : Heap}
def N__law_cell : List Str := ["_law_script", "_law_k"]
def F__law_cell : Fn := fnc 2 2
    (sq (ifS (cmp ltD (var 1) (cal (f1 lenD) (aC (var 0) aN)))
      (rt (op2 getD (var 0) (var 1)))
      skip)
      (rt (cst (.int 0))))
theorem sc__law_cell : FnScope N__law_cell ["_law_script", "_law_k"] (defScope (topS 41)) := ⟨rfl, rfl, rfl, by decide +kernel, rfl, by decide +kernel, by decide +kernel⟩
theorem ok__law_cell (Z : ZF fa fn exl K mg) : CallOk P w K mg base 1 "_law_cell" F__law_cell := by
  obtain ⟨fd, F⟩ := Z.says.def_ 0 (d := d0)
  have sc := sc__law_cell
  exact ⟨_, fd, _, fn_sound F sc fun cdv A outer s H hr =>
    (ss_cons (s_if (st_cmp op_ltD (se_var 1) (se_bltI imm_lenD cr_lenD (Z.free 12) boot_len (sa_cons (se_var 0) sa_nil)))
      (ss_one (s_ret (se_get (se_var 0) (se_var 1))))
      ss_nil)
      (ss_one (s_ret se_int))), (Z.glo 38), F.kp, (F.bindsN fun _ _ _ _ _ _ us hl => match us, hl with | [_, _], _ => rfl)⟩
def N__law_shape : List Str := ["_law_cell_here", "_law_shapes"]
def F__law_shape : Fn := fnc 1 2
    (sq (setE 1 (lstE (aC (tupE (aC (cst (.int 2)) (aC (cst (.int 1)) aN))) (aC (tupE (aC (cst (.int 2)) (aC (cst (.int 2)) aN))) (aC (tupE (aC (cst (.int 2)) (aC (cst (.int 3)) aN))) (aC (tupE (aC (cst (.int 3)) (aC (cst (.int 1)) aN))) (aC (tupE (aC (cst (.int 3)) (aC (cst (.int 2)) aN))) (aC (tupE (aC (cst (.int 5)) (aC (cst (.int 1)) aN))) (aC (tupE (aC (cst (.int 2)) (aC (cst (.int 4)) aN))) (aC (tupE (aC (cst (.int 3)) (aC (cst (.int 3)) aN))) (aC (tupE (aC (cst (.int 7)) (aC (cst (.int 1)) aN))) (aC (tupE (aC (cst (.int 5)) (aC (cst (.int 2)) aN))) (aC (tupE (aC (cst (.int 2)) (aC (cst (.int 5)) aN))) (aC (tupE (aC (cst (.int 7)) (aC (cst (.int 2)) aN))) aN))))))))))))))
      (rt (op2 getD (var 1) (op2 modD (cal (f1 intD) (aC (var 0) aN)) (cst (.int 12))))))
theorem sc__law_shape : FnScope N__law_shape ["_law_cell_here"] (defScope (topS 43)) := ⟨rfl, rfl, rfl, by decide +kernel, rfl, by decide +kernel, by decide +kernel⟩
theorem ok__law_shape (Z : ZF fa fn exl K mg) : CallOk P w K mg base 1 "_law_shape" F__law_shape := by
  obtain ⟨fd, F⟩ := Z.says.def_ 1 (d := d1)
  have sc := sc__law_shape
  exact ⟨_, fd, _, fn_sound F sc fun cdv A outer s H hr =>
    (ss_cons (s_set sc.nd (SN.se (sn_lst (sa_cons (se_tup (sa_cons se_int (sa_cons se_int sa_nil))) (sa_cons (se_tup (sa_cons se_int (sa_cons se_int sa_nil))) (sa_cons (se_tup (sa_cons se_int (sa_cons se_int sa_nil))) (sa_cons (se_tup (sa_cons se_int (sa_cons se_int sa_nil))) (sa_cons (se_tup (sa_cons se_int (sa_cons se_int sa_nil))) (sa_cons (se_tup (sa_cons se_int (sa_cons se_int sa_nil))) (sa_cons (se_tup (sa_cons se_int (sa_cons se_int sa_nil))) (sa_cons (se_tup (sa_cons se_int (sa_cons se_int sa_nil))) (sa_cons (se_tup (sa_cons se_int (sa_cons se_int sa_nil))) (sa_cons (se_tup (sa_cons se_int (sa_cons se_int sa_nil))) (sa_cons (se_tup (sa_cons se_int (sa_cons se_int sa_nil))) (sa_cons (se_tup (sa_cons se_int (sa_cons se_int sa_nil))) sa_nil)))))))))))))))
      (ss_one (s_ret (se_get (se_var 1) (se_op2 op_modD (se_btyI imm_intD cr_intD (Z.free 1) PyProof.Rows.boot_int (sa_cons (se_var 0) sa_nil)) se_int))))), (Z.glo 39), F.kp, (F.bindsN fun _ _ _ _ _ _ us hl => match us, hl with | [_], _ => rfl)⟩
def N__law_names : List Str := ["_law_cell_here", "_law_count", "_law_menu", "_law_start", "_law_step", "_law_k"]
def F__law_names : Fn := fnc 2 6
    (sq (setE 2 (lstE (aC (cst (.str "x")) (aC (cst (.str "y")) (aC (cst (.str "z")) (aC (cst (.str "x1")) (aC (cst (.str "b")) (aC (cst (.str "word")) (aC (cst (.str "k9")) (aC (cst (.str "verylongname")) aN))))))))))
      (sq (setE 3 (op2 modD (cal (f1 intD) (aC (var 0) aN)) (cst (.int 8))))
      (sq (setE 4 (op2 getD (lstE (aC (cst (.int 1)) (aC (cst (.int 3)) (aC (cst (.int 5)) (aC (cst (.int 7)) aN))))) (op2 modD (cal (f1 intD) (aC (op2 divD (var 0) (cst (.int 8))) aN)) (cst (.int 4)))))
      (rt (lcE (iRng (one1 (aC (var 1) aN))) (.n 5) yes (op2 getD (var 2) (op2 modD (cal (f1 intD) (aC (op2 addD (var 3) (op2 mulD (var 4) (var 5))) aN)) (cst (.int 8)))) [5])))))
theorem sc__law_names : FnScope N__law_names ["_law_cell_here", "_law_count"] (defScope (topS 44)) := ⟨rfl, rfl, rfl, by decide +kernel, rfl, by decide +kernel, by decide +kernel⟩
theorem ok__law_names (Z : ZF fa fn exl K mg) : CallOk P w K mg base 1 "_law_names" F__law_names := by
  obtain ⟨fd, F⟩ := Z.says.def_ 2 (d := d2)
  have sc := sc__law_names
  exact ⟨_, fd, _, fn_sound F sc fun cdv A outer s H hr =>
    (ss_cons (s_set sc.nd (SN.se (sn_lst (sa_cons se_str (sa_cons se_str (sa_cons se_str (sa_cons se_str (sa_cons se_str (sa_cons se_str (sa_cons se_str (sa_cons se_str sa_nil)))))))))))
      (ss_cons (s_set sc.nd (se_op2 op_modD (se_btyI imm_intD cr_intD (Z.free 1) PyProof.Rows.boot_int (sa_cons (se_var 0) sa_nil)) se_int))
      (ss_cons (s_set sc.nd (se_get (SN.se (sn_lst (sa_cons se_int (sa_cons se_int (sa_cons se_int (sa_cons se_int sa_nil)))))) (se_op2 op_modD (se_btyI imm_intD cr_intD (Z.free 1) PyProof.Rows.boot_int (sa_cons (se_op2 op_divD (se_var 0) se_int) sa_nil)) se_int)))
      (ss_one (s_ret (SN.se (sn_lc rfl sc.nd (si_rng1 (Z.free 2) (sa_cons (se_var 1) sa_nil)) (blkOk_by (own := [("_law_k", 5)]) (N := N__law_names) (sc := defScope (topS 44)) (by decide +kernel)) (fun _ _ _ _ _ => (g_n 5 sc.nd)) (fun _ _ _ _ _ => (se_get (se_var 2) (se_op2 op_modD (se_btyI imm_intD cr_intD (Z.free 1) PyProof.Rows.boot_int (sa_cons (se_op2 op_addD (se_var 3) (se_op2 op_mulD (se_var 4) (se_var 5))) sa_nil)) se_int)))))))))), (Z.glo 40), F.kp, (F.bindsN fun _ _ _ _ _ _ us hl => match us, hl with | [_, _], _ => rfl)⟩
def N__law_digits : List Str := ["_law_cell_here", "_law_many", "_law_count", "_law_digits_here", "_law_rest", "_law_k", "_law_mixed"]
def F__law_digits : Fn := fnc 3 7
    (sq (newE 3 (lstE aN))
      (sq (setE 4 (var 0))
      (sq (forE (iRng (one1 (aC (var 2) aN))) (.n 5)
      (ifS (cmp (flip leD) (var 0) (op2 powD (cst (.int 10)) (cst (.int 18))))
      (sq (app 3 (op2 modD (cal (f1 intD) (aC (var 4) aN)) (var 1)))
      (setE 4 (op2 divD (var 4) (var 1))))
      (sq (setE 6 (op2 modD (cal (f1 intD) (aC (op2 addD (op2 addD (op2 mulD (var 0) (cst (.int 48271))) (op2 mulD (var 5) (cst (.int 69621)))) (cst (.int 1013))) aN)) (cst (.int 2147483647))))
      (sq (setE 6 (op2 modD (cal (f1 intD) (aC (op2 addD (op2 addD (op2 mulD (var 6) (var 6)) (op2 mulD (cst (.int 7)) (var 6))) (var 5)) aN)) (cst (.int 2147483629))))
      (app 3 (op2 modD (cal (f1 intD) (aC (op2 divD (var 6) (cst (.int 31))) aN)) (var 1)))))))
      (rt (ovar 3)))))
theorem sc__law_digits : FnScope N__law_digits ["_law_cell_here", "_law_many", "_law_count"] (defScope (topS 42)) := ⟨rfl, rfl, rfl, by decide +kernel, rfl, by decide +kernel, by decide +kernel⟩
theorem ok__law_digits (Z : ZF fa fn exl K mg) : CallOk P w K mg base 1 "_law_digits" F__law_digits := by
  obtain ⟨fd, F⟩ := Z.says.def_ 3 (d := d3)
  have sc := sc__law_digits
  exact ⟨_, fd, _, fn_sound F sc fun cdv A outer s H hr =>
    (ss_cons (s_new sc.nd (sn_lst sa_nil))
      (ss_cons (s_set sc.nd (se_var 0))
      (ss_cons (s_for PassesOwn.never rfl (si_rng1 (Z.free 2) (sa_cons (se_var 2) sa_nil)) (g_n 5 sc.nd)
      (ss_one (s_if (st_cmp op_geD (se_var 0) (se_op2 op_powD se_int se_int))
      (ss_cons (s_app (se_op2 op_modD (se_btyI imm_intD cr_intD (Z.free 1) PyProof.Rows.boot_int (sa_cons (se_var 4) sa_nil)) (se_var 1)))
      (ss_one (s_set sc.nd (se_op2 op_divD (se_var 4) (se_var 1)))))
      (ss_cons (s_set sc.nd (se_op2 op_modD (se_btyI imm_intD cr_intD (Z.free 1) PyProof.Rows.boot_int (sa_cons (se_op2 op_addD (se_op2 op_addD (se_op2 op_mulD (se_var 0) se_int) (se_op2 op_mulD (se_var 5) se_int)) se_int) sa_nil)) se_int))
      (ss_cons (s_set sc.nd (se_op2 op_modD (se_btyI imm_intD cr_intD (Z.free 1) PyProof.Rows.boot_int (sa_cons (se_op2 op_addD (se_op2 op_addD (se_op2 op_mulD (se_var 6) (se_var 6)) (se_op2 op_mulD se_int (se_var 6))) (se_var 5)) sa_nil)) se_int))
      (ss_one (s_app (se_op2 op_modD (se_btyI imm_intD cr_intD (Z.free 1) PyProof.Rows.boot_int (sa_cons (se_op2 op_divD (se_var 6) se_int) sa_nil)) (se_var 1)))))))))
      (ss_one (s_ret (se_ovar 3)))))), (Z.glo 41), F.kp, (F.bindsN fun _ _ _ _ _ _ us hl => match us, hl with | [_, _, _], _ => rfl)⟩
def N__law_take : List Str := ["_law_state", "_law_many"]
def F__law_take : Fn := fncS 0 2 2
    (sq (stS 0 (cst (.int 1)) (op2 addD (getS 0 (cst (.int 1))) (cst (.int 1))))
      (rtS 0 (puE (op2 modD (cal (f1 intD) (aC (op2 divD (op2 getD (getS 0 (cst (.int 0))) (op2 modD (cal (f1 intD) (aC (getS 0 (cst (.int 1))) aN)) (cal (f1 lenD) (aC (getS 0 (cst (.int 0))) aN)))) (cst (.int 7))) aN)) (var 1)))))
theorem sc__law_take : FnScope N__law_take ["_law_state", "_law_many"] (defScope (topS 54)) := ⟨rfl, rfl, rfl, by decide +kernel, rfl, by decide +kernel, by decide +kernel⟩
theorem ok__law_take (Z : ZF fa fn exl K mg) : CallS P w K mg base 1 "_law_take" 0 F__law_take := by
  obtain ⟨fd, F⟩ := Z.says.def_ 4 (d := d4)
  have sc := sc__law_take
  exact ⟨_, fd, ["_law_state", "_law_many"], by
    letI : RT := RT.st
    exact fnS_sound F sc rfl rfl (by decide) fun cdv A outer s H hr => (ss_cons (s_stS (i := 0) se_int (se_op2 op_addD (se_getS (i := 0) se_int) se_int))
      (ss_one (s_rtS (i := 0) (ee_pure (se_op2 op_modD (se_btyI imm_intD cr_intD (Z.free 1) PyProof.Rows.boot_int (sa_cons (se_op2 op_divD (se_get (se_getS (i := 0) se_int) (se_op2 op_modD (se_btyI imm_intD cr_intD (Z.free 1) PyProof.Rows.boot_int (sa_cons (se_getS (i := 0) se_int) sa_nil)) (se_bltI imm_lenD cr_lenD (Z.free 12) boot_len (sa_cons (se_getS (i := 0) se_int) sa_nil)))) se_int) sa_nil)) (se_var 1)))))), (Z.glo 42), F.kp, (F.bindsN fun _ _ _ _ _ _ us hl => match us, hl with | [_, _], _ => rfl)⟩
def N__law_gap : List Str := ["_law_state"]
def F__law_gap : Fn := fncS 0 1 1
    (rtS 0 (eop2 getD (puE (lstE (aC (cst (.str "")) (aC (cst (.str "")) (aC (cst (.str "")) (aC (cst (.str " ")) (aC (cst (.str "  ")) aN))))))) (eCal F__law_take 0 0 aN (aC (cst (.int 5)) aN))))
theorem sc__law_gap : FnScope N__law_gap ["_law_state"] (defScope (topS 56)) := ⟨rfl, rfl, rfl, by decide +kernel, rfl, by decide +kernel, by decide +kernel⟩
theorem ok__law_gap (Z : ZF fa fn exl K mg) : CallS P w K mg base 2 "_law_gap" 0 F__law_gap := by
  obtain ⟨fd, F⟩ := Z.says.def_ 5 (d := d5)
  have sc := sc__law_gap
  exact ⟨_, fd, ["_law_state"], by
    letI : RT := RT.st
    exact fnS_sound F sc rfl rfl (by decide) fun cdv A outer s H hr => (ss_one (s_rtS (i := 0) (ee_ix (ee_pure (SN.se (sn_lst (sa_cons se_str (sa_cons se_str (sa_cons se_str (sa_cons se_str (sa_cons se_str sa_nil)))))))) (ee_cal (ok__law_take Z) (hr.mono (by decide)) (pm_here (i := 0) (sa_cons se_int sa_nil)))))), (Z.glo 43), F.kp, (F.bindsN fun _ _ _ _ _ _ us hl => match us, hl with | [_], _ => rfl)⟩
def N__law_made : List Str := ["_law_prime", "_law_numbers", "_law_rows", "_law_power", "_law_row"]
def F__law_made : Fn := fnc 2 5
    (sq (setE 2 (lcE (iLst (op1 sortKL (var 1))) (.n 3) yes (tupE (aC (var 3) (aC (op2 modD (cal (f1 intD) (aC (op2 getK (var 1) (var 3)) aN)) (var 0)) aN))) [3]))
      (rt (op1 ftupD (lcE (iLst (op1 revL (var 2))) (.n 4) (cmp (neg eqD) (op2 getD (var 4) (cst (.int 1))) (cst (.int 0))) (var 4) [4]))))
theorem sc__law_made : FnScope N__law_made ["_law_prime", "_law_numbers"] (defScope (topS 45)) := ⟨rfl, rfl, rfl, by decide +kernel, rfl, by decide +kernel, by decide +kernel⟩
theorem ok__law_made (Z : ZF fa fn exl K mg) : CallOk P w K mg base 1 "_law_made" F__law_made := by
  obtain ⟨fd, F⟩ := Z.says.def_ 6 (d := d6)
  have sc := sc__law_made
  exact ⟨_, fd, _, fn_sound F sc fun cdv A outer s H hr =>
    (ss_cons (s_setLc rfl sc.nd (sw_true rfl rfl rfl (by decide +kernel)) (si_list (SN.se (sn_sortKL rfl hr.units (Z.free 13) (se_var 1)))) (blkOk_by (own := [("_law_power", 3)]) (N := N__law_made) (sc := defScope (topS 45)) (by decide +kernel)) (fun _ _ _ _ _ => (g_n 3 sc.nd)) (fun _ _ _ _ _ => (se_tup (sa_cons (se_var 3) (sa_cons (se_op2 op_modD (se_btyI imm_intD cr_intD (Z.free 1) PyProof.Rows.boot_int (sa_cons (se_getK (hu_of hr) (se_var 1) (se_var 3)) sa_nil)) (se_var 0)) sa_nil)))))
      (ss_one (s_ret (se_ftuple (Z.free 14) (SN.se (sn_lcI rfl sc.nd (si_list (SN.se (sn_rev (se_var 2)))) (blkOk_by (own := [("_law_row", 4)]) (N := N__law_made) (sc := defScope (topS 45)) (by decide +kernel)) (fun _ _ _ _ _ => (g_n 4 sc.nd)) (fun _ _ _ _ _ => (st_cmp (op_neDD hr.units) (se_get (se_var 4) se_int) se_int)) (fun _ _ _ _ _ => (se_var 4)))))))), (Z.glo 44), F.kp, (F.bindsN fun _ _ _ _ _ _ us hl => match us, hl with | [_, _], _ => rfl)⟩
def N__law_constant : List Str := ["_law_prime", "_law_count", "_law_number"]
def F__law_constant : Fn := fnc 3 3
    (rt (cal F__law_made (aC (var 0) (aC (dic1 (op2 mulD (tupE (aC (cst (.int 0)) aN)) (var 1)) (var 2)) aN))))
theorem sc__law_constant : FnScope N__law_constant ["_law_prime", "_law_count", "_law_number"] (defScope (topS 52)) := ⟨rfl, rfl, rfl, by decide +kernel, rfl, by decide +kernel, by decide +kernel⟩
theorem ok__law_constant (Z : ZF fa fn exl K mg) : CallOk P w K mg base 2 "_law_constant" F__law_constant := by
  obtain ⟨fd, F⟩ := Z.says.def_ 7 (d := d7)
  have sc := sc__law_constant
  exact ⟨_, fd, _, fn_sound F sc fun cdv A outer s H hr =>
    (ss_one (s_ret (se_cal (ok__law_made Z) (hr.mono (by decide)) (sa_cons (se_var 0) (sa_cons (SN.se (sn_dic1 (hu_of hr) (se_op2 op_mulD (se_tup (sa_cons se_int sa_nil)) (se_var 1)) (se_var 2))) sa_nil))))), (Z.glo 45), F.kp, (F.bindsN fun _ _ _ _ _ _ us hl => match us, hl with | [_, _, _], _ => rfl)⟩
def N__law_unknown : List Str := ["_law_count", "_law_index", "_law_k"]
def F__law_unknown : Fn := fnc 2 3
    (rt (tupE (aC (tupE (aC (op1 tupD (lcE (iRng (one1 (aC (var 0) aN))) (.n 2) yes (cal (f1 intD) (aC (boo (cmp eqD (var 2) (var 1))) aN)) [2])) (aC (cst (.int 1)) aN))) aN)))
theorem sc__law_unknown : FnScope N__law_unknown ["_law_count", "_law_index"] (defScope (topS 53)) := ⟨rfl, rfl, rfl, by decide +kernel, rfl, by decide +kernel, by decide +kernel⟩
theorem ok__law_unknown (Z : ZF fa fn exl K mg) : CallOk P w K mg base 1 "_law_unknown" F__law_unknown := by
  obtain ⟨fd, F⟩ := Z.says.def_ 8 (d := d8)
  have sc := sc__law_unknown
  exact ⟨_, fd, _, fn_sound F sc fun cdv A outer s H hr =>
    (ss_one (s_ret (se_tup (sa_cons (se_tup (sa_cons (se_tuple (Z.free 14) (SN.se (sn_lc rfl sc.nd (si_rng1 (Z.free 2) (sa_cons (se_var 0) sa_nil)) (blkOk_by (own := [("_law_k", 2)]) (N := N__law_unknown) (sc := defScope (topS 53)) (by decide +kernel)) (fun _ _ _ _ _ => (g_n 2 sc.nd)) (fun _ _ _ _ _ => (se_btyI imm_intD cr_intD (Z.free 1) PyProof.Rows.boot_int (sa_cons (se_cmp (op_eqDD hr.units) (se_var 2) (se_var 1)) sa_nil)))))) (sa_cons se_int sa_nil))) sa_nil)))), (Z.glo 46), F.kp, (F.bindsN fun _ _ _ _ _ _ us hl => match us, hl with | [_, _], _ => rfl)⟩
def N__law_base : List Str := ["_law_prime", "_law_names_here", "_law_state", "_law_depth", "_law_choice", "_law_number", "_law_text", "_law_index", "_law_found"]
def F__law_base_g (t : Fn) : Fn := fncS 2 4 9
    (sq (setEe 4 (eCal F__law_take 2 0 aN (aC (cst (.int 5)) aN)))
      (sq (ifS (cmp ltD (var 4) (cst (.int 2)))
      (sq (setEe 5 (eop2 getD (puE (lstE (aC (cst (.int 0)) (aC (cst (.int 1)) (aC (cst (.int 2)) (aC (cst (.int 7)) (aC (cst (.int 12)) (aC (cst (.int 999999999)) (aC (cst (.int 100)) aN))))))))) (eCal F__law_take 2 0 aN (aC (cst (.int 7)) aN))))
      (sq (setEe 6 (eop2 addD (eop2 getD (puE (lstE (aC (cst (.str "")) (aC (cst (.str "00")) aN)))) (bE intD (andVE (puE (boo (cmp ltD (var 5) (cst (.int 20))))) (booE (cmpE eqD (eCal F__law_take 2 0 aN (aC (cst (.int 5)) aN)) (puE (cst (.int 0)))))))) (puE (op1 strI (var 5)))))
      (rtS 2 (eTup (eC (eop2 addD (eop2 addD (eCal F__law_gap 2 0 aN aN) (puE (var 6))) (eCal F__law_gap 2 0 aN aN)) (eC (puE (cal F__law_constant (aC (var 0) (aC (cal (f1 lenD) (aC (var 1) aN)) (aC (var 5) aN))))) eN))))))
      skip)
      (sq (ifS (orT (cmp ltD (var 4) (cst (.int 4))) (cmp eqD (var 3) (cst (.int 0))))
      (sq (setEe 7 (eCal F__law_take 2 0 aN (aC (cal (f1 lenD) (aC (var 1) aN)) aN)))
      (rtS 2 (eTup (eC (eop2 addD (eop2 addD (eCal F__law_gap 2 0 aN aN) (puE (op2 getD (var 1) (var 7)))) (eCal F__law_gap 2 0 aN aN)) (eC (puE (cal F__law_unknown (aC (cal (f1 lenD) (aC (var 1) aN)) (aC (var 7) aN)))) eN)))))
      skip)
      (sq (asgEe (.t [(.n 6), (.n 8)]) (eCal t 2 2 (aC (var 0) (aC (var 1) aN)) (aC (op2 subD (var 3) (cst (.int 1))) aN)))
      (rtS 2 (eTup (eC (eop2 addD (eop2 addD (eop2 addD (eop2 addD (eCal F__law_gap 2 0 aN aN) (puE (cst (.str "(")))) (puE (var 6))) (puE (cst (.str ")")))) (eCal F__law_gap 2 0 aN aN)) (eC (puE (var 8)) eN))))))))
theorem sc__law_base : FnScope N__law_base ["_law_prime", "_law_names_here", "_law_state", "_law_depth"] (defScope (topS 59)) := ⟨rfl, rfl, rfl, by decide +kernel, rfl, by decide +kernel, by decide +kernel⟩
theorem okg__law_base (Z : ZF fa fn exl K mg) {t : Fn} {L : Nat} (ht : CallS P w K mg base (3 + L) "_law_sum" 2 t) : CallS P w K mg base (3 + L + 1) "_law_base" 2 (F__law_base_g t) := by
  obtain ⟨fd, F⟩ := Z.says.def_ 9 (d := d9)
  have sc := sc__law_base
  exact ⟨_, fd, ["_law_prime", "_law_names_here", "_law_state", "_law_depth"], by
    letI : RT := RT.st
    exact fnS_sound F sc rfl rfl (by decide) fun cdv A outer s H hr => (ss_cons (s_setEe sc.nd (ee_cal (ok__law_take Z) (hr.mono (by omega)) (pm_here (i := 2) (sa_cons se_int sa_nil))))
      (ss_cons (s_if (st_cmp op_ltD (se_var 4) se_int)
      (ss_cons (s_setEe sc.nd (ee_ix (ee_pure (SN.se (sn_lst (sa_cons se_int (sa_cons se_int (sa_cons se_int (sa_cons se_int (sa_cons se_int (sa_cons se_int (sa_cons se_int sa_nil)))))))))) (ee_cal (ok__law_take Z) (hr.mono (by omega)) (pm_here (i := 2) (sa_cons se_int sa_nil)))))
      (ss_cons (s_setEe sc.nd (ee_op2 op_addD (ee_ix (ee_pure (SN.se (sn_lst (sa_cons se_str (sa_cons se_str sa_nil))))) (ee_bty cr_intD (Z.free 1) PyProof.Rows.boot_int (ee_and (ee_pure (se_cmp op_ltD (se_var 5) se_int)) (ee_one (ee_cmpV (op_eqDD hr.units) (ee_cal (ok__law_take Z) (hr.mono (by omega)) (pm_here (i := 2) (sa_cons se_int sa_nil))) (ee_pure se_int)))))) (ee_pure (se_strI (Z.free 0) (se_var 5)))))
      (ss_one (s_rtS (i := 2) (ee_tup (ea_cons (ee_op2 op_addD (ee_op2 op_addD (ee_cal (ok__law_gap Z) (hr.mono (by omega)) (pm_here (i := 2) sa_nil)) (ee_pure (se_var 6))) (ee_cal (ok__law_gap Z) (hr.mono (by omega)) (pm_here (i := 2) sa_nil))) (ea_cons (ee_pure (se_cal (ok__law_constant Z) (hr.mono (by omega)) (sa_cons (se_var 0) (sa_cons (se_bltI imm_lenD cr_lenD (Z.free 12) boot_len (sa_cons (se_var 1) sa_nil)) (sa_cons (se_var 5) sa_nil))))) ea_nil)))))))
      ss_nil)
      (ss_cons (s_if (SWd.st (sw_or (st_cmp op_ltD (se_var 4) se_int) (sw_or1 (st_cmp (op_eqDD hr.units) (se_var 3) se_int))))
      (ss_cons (s_setEe sc.nd (ee_cal (ok__law_take Z) (hr.mono (by omega)) (pm_here (i := 2) (sa_cons (se_bltI imm_lenD cr_lenD (Z.free 12) boot_len (sa_cons (se_var 1) sa_nil)) sa_nil))))
      (ss_one (s_rtS (i := 2) (ee_tup (ea_cons (ee_op2 op_addD (ee_op2 op_addD (ee_cal (ok__law_gap Z) (hr.mono (by omega)) (pm_here (i := 2) sa_nil)) (ee_pure (se_get (se_var 1) (se_var 7)))) (ee_cal (ok__law_gap Z) (hr.mono (by omega)) (pm_here (i := 2) sa_nil))) (ea_cons (ee_pure (se_cal (ok__law_unknown Z) (hr.mono (by omega)) (sa_cons (se_bltI imm_lenD cr_lenD (Z.free 12) boot_len (sa_cons (se_var 1) sa_nil)) (sa_cons (se_var 7) sa_nil)))) ea_nil))))))
      ss_nil)
      (ss_cons (s_asgEe (ee_cal ht (hr.mono (by omega)) (pm_cons (se_var 0) (pm_cons (se_var 1) (pm_here (i := 2) (sa_cons (se_op2 op_subD (se_var 3) se_int) sa_nil))))) (g_t rfl (gs_cons (g_n 6 sc.nd) (gs_cons (g_n 8 sc.nd) gs_nil))))
      (ss_one (s_rtS (i := 2) (ee_tup (ea_cons (ee_op2 op_addD (ee_op2 op_addD (ee_op2 op_addD (ee_op2 op_addD (ee_cal (ok__law_gap Z) (hr.mono (by omega)) (pm_here (i := 2) sa_nil)) (ee_pure se_str)) (ee_pure (se_var 6))) (ee_pure se_str)) (ee_cal (ok__law_gap Z) (hr.mono (by omega)) (pm_here (i := 2) sa_nil))) (ea_cons (ee_pure (se_var 8)) ea_nil))))))))), (Z.glo 47), F.kp, (F.bindsN fun _ _ _ _ _ _ us hl => match us, hl with | [_, _, _, _], _ => rfl)⟩
def N__law_lessened : List Str := ["_law_prime", "_law_exponent", "_law_turn"]
def F__law_lessened : Fn := fnc 2 3
    (sq (forE (iRng (one1 (aC (cst (.int 20)) aN))) (.n 2)
      (ifS (cmp (flip leD) (var 1) (var 0))
      (setE 1 (op2 subD (var 1) (op2 subD (var 0) (cst (.int 1)))))
      skip))
      (rt (var 1)))
theorem sc__law_lessened : FnScope N__law_lessened ["_law_prime", "_law_exponent"] (defScope (topS 49)) := ⟨rfl, rfl, rfl, by decide +kernel, rfl, by decide +kernel, by decide +kernel⟩
theorem ok__law_lessened (Z : ZF fa fn exl K mg) : CallOk P w K mg base 1 "_law_lessened" F__law_lessened := by
  obtain ⟨fd, F⟩ := Z.says.def_ 10 (d := d10)
  have sc := sc__law_lessened
  exact ⟨_, fd, _, fn_sound F sc fun cdv A outer s H hr =>
    (ss_cons (s_for PassesOwn.never rfl (si_rng1 (Z.free 2) (sa_cons se_int sa_nil)) (g_n 2 sc.nd)
      (ss_one (s_if (st_cmp op_geD (se_var 1) (se_var 0))
      (ss_one (s_set sc.nd (se_op2 op_subD (se_var 1) (se_op2 op_subD (se_var 0) se_int))))
      ss_nil)))
      (ss_one (s_ret (se_var 1)))), (Z.glo 48), F.kp, (F.bindsN fun _ _ _ _ _ _ us hl => match us, hl with | [_, _], _ => rfl)⟩
def N__law_times : List Str := ["_law_prime", "_law_one", "_law_other", "_law_numbers", "_law_power", "_law_number", "_law_second", "_law_factor_here", "_law_both", "_law_k"]
def F__law_times : Fn := fnc 3 10
    (sq (newE 3 (cst (.dic true [] [])))
      (sq (forE (iTp (var 1)) (.t [(.n 4), (.n 5)])
      (forE (iTp (var 2)) (.t [(.n 6), (.n 7)])
      (sq (setE 8 (op1 tupD (lcE (iRng (one1 (aC (cal (f1 lenD) (aC (var 4) aN)) aN))) (.n 9) yes (cal F__law_lessened (aC (var 0) (aC (op2 addD (op2 getD (var 4) (var 9)) (op2 getD (var 6) (var 9))) aN))) [9])))
      (stK 3 (var 8) (imm (op2 addD (op3 getK2 (ovar 3) (var 8) (cst (.int 0))) (op2 mulD (var 5) (var 7))))))))
      (rt (cal F__law_made (aC (var 0) (aC (ovar 3) aN))))))
theorem sc__law_times : FnScope N__law_times ["_law_prime", "_law_one", "_law_other"] (defScope (topS 50)) := ⟨rfl, rfl, rfl, by decide +kernel, rfl, by decide +kernel, by decide +kernel⟩
theorem ok__law_times (Z : ZF fa fn exl K mg) : CallOk P w K mg base 2 "_law_times" F__law_times := by
  obtain ⟨fd, F⟩ := Z.says.def_ 11 (d := d11)
  have sc := sc__law_times
  exact ⟨_, fd, _, fn_sound F sc fun cdv A outer s H hr =>
    (ss_cons (s_new sc.nd sn_dnewT)
      (ss_cons (s_for PassesOwn.never rfl (si_tup (se_var 1)) (g_t rfl (gs_cons (g_n 4 sc.nd) (gs_cons (g_n 5 sc.nd) gs_nil)))
      (ss_one (s_for PassesOwn.never rfl (si_tup (se_var 2)) (g_t rfl (gs_cons (g_n 6 sc.nd) (gs_cons (g_n 7 sc.nd) gs_nil)))
      (ss_cons (s_set sc.nd (se_tuple (Z.free 14) (SN.se (sn_lc rfl sc.nd (si_rng1 (Z.free 2) (sa_cons (se_bltI imm_lenD cr_lenD (Z.free 12) boot_len (sa_cons (se_var 4) sa_nil)) sa_nil)) (blkOk_by (own := [("_law_k", 9)]) (N := N__law_times) (sc := defScope (topS 50)) (by decide +kernel)) (fun _ _ _ _ _ => (g_n 9 sc.nd)) (fun _ _ _ _ _ => (se_cal (ok__law_lessened Z) (hr.mono (by decide)) (sa_cons (se_var 0) (sa_cons (se_op2 op_addD (se_get (se_var 4) (se_var 9)) (se_get (se_var 6) (se_var 9))) sa_nil))))))))
      (ss_one (s_stK (hu_of hr) (se_var 8) (se_imm (se_op2 op_addD (se_getK2 (hu_of hr) (se_ovar 3) (se_var 8) se_int) (se_op2 op_mulD (se_var 5) (se_var 7))))))))))
      (ss_one (s_ret (se_cal (ok__law_made Z) (hr.mono (by decide)) (sa_cons (se_var 0) (sa_cons (se_ovar 3) sa_nil))))))), (Z.glo 49), F.kp, (F.bindsN fun _ _ _ _ _ _ us hl => match us, hl with | [_, _, _], _ => rfl)⟩
def N__law_raised : List Str := ["_law_prime", "_law_count", "_law_one", "_law_exponent", "_law_found", "_law_turn"]
def F__law_raised : Fn := fnc 4 6
    (sq (setE 4 (tupE (aC (tupE (aC (op2 mulD (tupE (aC (cst (.int 0)) aN)) (var 1)) (aC (cst (.int 1)) aN))) aN)))
      (sq (forE (iRng (one1 (aC (var 3) aN))) (.n 5)
      (setE 4 (cal F__law_times (aC (var 0) (aC (var 4) (aC (var 2) aN))))))
      (rt (var 4))))
theorem sc__law_raised : FnScope N__law_raised ["_law_prime", "_law_count", "_law_one", "_law_exponent"] (defScope (topS 51)) := ⟨rfl, rfl, rfl, by decide +kernel, rfl, by decide +kernel, by decide +kernel⟩
theorem ok__law_raised (Z : ZF fa fn exl K mg) : CallOk P w K mg base 3 "_law_raised" F__law_raised := by
  obtain ⟨fd, F⟩ := Z.says.def_ 12 (d := d12)
  have sc := sc__law_raised
  exact ⟨_, fd, _, fn_sound F sc fun cdv A outer s H hr =>
    (ss_cons (s_set sc.nd (se_tup (sa_cons (se_tup (sa_cons (se_op2 op_mulD (se_tup (sa_cons se_int sa_nil)) (se_var 1)) (sa_cons se_int sa_nil))) sa_nil)))
      (ss_cons (s_for PassesOwn.never rfl (si_rng1 (Z.free 2) (sa_cons (se_var 3) sa_nil)) (g_n 5 sc.nd)
      (ss_one (s_set sc.nd (se_cal (ok__law_times Z) (hr.mono (by decide)) (sa_cons (se_var 0) (sa_cons (se_var 4) (sa_cons (se_var 2) sa_nil)))))))
      (ss_one (s_ret (se_var 4))))), (Z.glo 50), F.kp, (F.bindsN fun _ _ _ _ _ _ us hl => match us, hl with | [_, _, _, _], _ => rfl)⟩
def N__law_factor : List Str := ["_law_prime", "_law_names_here", "_law_state", "_law_depth", "_law_text", "_law_found", "_law_exponent", "_law_few"]
def F__law_factor_g (t : Fn) : Fn := fncS 2 4 8
    (sq (asgEe (.t [(.n 4), (.n 5)]) (eCal (F__law_base_g t) 2 2 (aC (var 0) (aC (var 1) aN)) (aC (var 3) aN)))
      (sq (ifE (cmpE eqD (eCal F__law_take 2 0 aN (aC (cst (.int 3)) aN)) (puE (cst (.int 0))))
      (sq (setEe 6 (eop2 getD (puE (lstE (aC (cst (.int 0)) (aC (cst (.int 1)) (aC (cst (.int 2)) (aC (cst (.int 3)) (aC (var 0) (aC (op2 addD (var 0) (cst (.int 1))) (aC (op2 subD (op2 powD (cst (.int 10)) (cst (.int 9))) (cst (.int 1))) (aC (cst (.int 6)) aN)))))))))) (eCal F__law_take 2 0 aN (aC (cst (.int 8)) aN))))
      (sq (setEe 4 (eop2 addD (eop2 addD (eop2 addD (puE (op2 addD (var 4) (cst (.str "^")))) (eCal F__law_gap 2 0 aN aN)) (eop2 getD (puE (lstE (aC (cst (.str "")) (aC (cst (.str "0")) aN)))) (bE intD (andVE (puE (boo (cmp ltD (var 6) (cst (.int 9))))) (booE (cmpE eqD (eCal F__law_take 2 0 aN (aC (cst (.int 4)) aN)) (puE (cst (.int 0))))))))) (puE (op1 strI (var 6)))))
      (sq (setE 7 (ife (cmp eqD (var 6) (cst (.int 0))) (cst (.int 0)) (op2 addD (op2 modD (cal (f1 intD) (aC (op2 subD (var 6) (cst (.int 1))) aN)) (op2 subD (var 0) (cst (.int 1)))) (cst (.int 1)))))
      (setE 5 (cal F__law_raised (aC (var 0) (aC (cal (f1 lenD) (aC (var 1) aN)) (aC (var 5) (aC (var 7) aN)))))))))
      skip)
      (rtS 2 (eTup (eC (eop2 addD (puE (var 4)) (eCal F__law_gap 2 0 aN aN)) (eC (puE (var 5)) eN))))))
theorem sc__law_factor : FnScope N__law_factor ["_law_prime", "_law_names_here", "_law_state", "_law_depth"] (defScope (topS 58)) := ⟨rfl, rfl, rfl, by decide +kernel, rfl, by decide +kernel, by decide +kernel⟩
theorem okg__law_factor (Z : ZF fa fn exl K mg) {t : Fn} {L : Nat} (ht : CallS P w K mg base (3 + L) "_law_sum" 2 t) : CallS P w K mg base (3 + L + 2) "_law_factor" 2 (F__law_factor_g t) := by
  obtain ⟨fd, F⟩ := Z.says.def_ 13 (d := d13)
  have sc := sc__law_factor
  exact ⟨_, fd, ["_law_prime", "_law_names_here", "_law_state", "_law_depth"], by
    letI : RT := RT.st
    exact fnS_sound F sc rfl rfl (by decide) fun cdv A outer s H hr => (ss_cons (s_asgEe (ee_cal (okg__law_base Z ht) (hr.mono (by omega)) (pm_cons (se_var 0) (pm_cons (se_var 1) (pm_here (i := 2) (sa_cons (se_var 3) sa_nil))))) (g_t rfl (gs_cons (g_n 4 sc.nd) (gs_cons (g_n 5 sc.nd) gs_nil))))
      (ss_cons (s_ifE (et_cmp (op_eqDD hr.units) (ee_cal (ok__law_take Z) (hr.mono (by omega)) (pm_here (i := 2) (sa_cons se_int sa_nil))) (ee_pure se_int))
      (ss_cons (s_setEe sc.nd (ee_ix (ee_pure (SN.se (sn_lst (sa_cons se_int (sa_cons se_int (sa_cons se_int (sa_cons se_int (sa_cons (se_var 0) (sa_cons (se_op2 op_addD (se_var 0) se_int) (sa_cons (se_op2 op_subD (se_op2 op_powD se_int se_int) se_int) (sa_cons se_int sa_nil))))))))))) (ee_cal (ok__law_take Z) (hr.mono (by omega)) (pm_here (i := 2) (sa_cons se_int sa_nil)))))
      (ss_cons (s_setEe sc.nd (ee_op2 op_addD (ee_op2 op_addD (ee_op2 op_addD (ee_pure (se_op2 op_addD (se_var 4) se_str)) (ee_cal (ok__law_gap Z) (hr.mono (by omega)) (pm_here (i := 2) sa_nil))) (ee_ix (ee_pure (SN.se (sn_lst (sa_cons se_str (sa_cons se_str sa_nil))))) (ee_bty cr_intD (Z.free 1) PyProof.Rows.boot_int (ee_and (ee_pure (se_cmp op_ltD (se_var 6) se_int)) (ee_one (ee_cmpV (op_eqDD hr.units) (ee_cal (ok__law_take Z) (hr.mono (by omega)) (pm_here (i := 2) (sa_cons se_int sa_nil))) (ee_pure se_int))))))) (ee_pure (se_strI (Z.free 0) (se_var 6)))))
      (ss_cons (s_set sc.nd (se_ife (st_cmp (op_eqDD hr.units) (se_var 6) se_int) se_int (se_op2 op_addD (se_op2 op_modD (se_btyI imm_intD cr_intD (Z.free 1) PyProof.Rows.boot_int (sa_cons (se_op2 op_subD (se_var 6) se_int) sa_nil)) (se_op2 op_subD (se_var 0) se_int)) se_int)))
      (ss_one (s_set sc.nd (se_cal (ok__law_raised Z) (hr.mono (by omega)) (sa_cons (se_var 0) (sa_cons (se_bltI imm_lenD cr_lenD (Z.free 12) boot_len (sa_cons (se_var 1) sa_nil)) (sa_cons (se_var 5) (sa_cons (se_var 7) sa_nil))))))))))
      ss_nil)
      (ss_one (s_rtS (i := 2) (ee_tup (ea_cons (ee_op2 op_addD (ee_pure (se_var 4)) (ee_cal (ok__law_gap Z) (hr.mono (by omega)) (pm_here (i := 2) sa_nil))) (ea_cons (ee_pure (se_var 5)) ea_nil))))))), (Z.glo 51), F.kp, (F.bindsN fun _ _ _ _ _ _ us hl => match us, hl with | [_, _, _, _], _ => rfl)⟩
def N__law_product : List Str := ["_law_prime", "_law_names_here", "_law_state", "_law_depth", "_law_k", "_law_text", "_law_found", "_law_more", "_law_one"]
def F__law_product_g (t : Fn) : Fn := fncS 2 4 9
    (sq (asgEe (.t [(.n 5), (.n 6)]) (eCal (F__law_factor_g t) 2 2 (aC (var 0) (aC (var 1) aN)) (aC (var 3) aN)))
      (sq (forEe (iRngE (eop2 getD (puE (lstE (aC (cst (.int 0)) (aC (cst (.int 0)) (aC (cst (.int 1)) (aC (cst (.int 2)) aN)))))) (eCal F__law_take 2 0 aN (aC (cst (.int 4)) aN)))) (.n 4)
      (sq (asgEe (.t [(.n 7), (.n 8)]) (eCal (F__law_factor_g t) 2 2 (aC (var 0) (aC (var 1) aN)) (aC (var 3) aN)))
      (sq (setE 5 (op2 addD (op2 addD (var 5) (cst (.str "*"))) (var 7)))
      (setE 6 (cal F__law_times (aC (var 0) (aC (var 6) (aC (var 8) aN))))))))
      (rtS 2 (puE (tupE (aC (var 5) (aC (var 6) aN)))))))
theorem sc__law_product : FnScope N__law_product ["_law_prime", "_law_names_here", "_law_state", "_law_depth"] (defScope (topS 57)) := ⟨rfl, rfl, rfl, by decide +kernel, rfl, by decide +kernel, by decide +kernel⟩
theorem okg__law_product (Z : ZF fa fn exl K mg) {t : Fn} {L : Nat} (ht : CallS P w K mg base (3 + L) "_law_sum" 2 t) : CallS P w K mg base (3 + L + 3) "_law_product" 2 (F__law_product_g t) := by
  obtain ⟨fd, F⟩ := Z.says.def_ 14 (d := d14)
  have sc := sc__law_product
  exact ⟨_, fd, ["_law_prime", "_law_names_here", "_law_state", "_law_depth"], by
    letI : RT := RT.st
    exact fnS_sound F sc rfl rfl (by decide) fun cdv A outer s H hr => (ss_cons (s_asgEe (ee_cal (okg__law_factor Z ht) (hr.mono (by omega)) (pm_cons (se_var 0) (pm_cons (se_var 1) (pm_here (i := 2) (sa_cons (se_var 3) sa_nil))))) (g_t rfl (gs_cons (g_n 5 sc.nd) (gs_cons (g_n 6 sc.nd) gs_nil))))
      (ss_cons (s_forE PassesOwn.never rfl (si_rngE (Z.free 2) (ee_ix (ee_pure (SN.se (sn_lst (sa_cons se_int (sa_cons se_int (sa_cons se_int (sa_cons se_int sa_nil))))))) (ee_cal (ok__law_take Z) (hr.mono (by omega)) (pm_here (i := 2) (sa_cons se_int sa_nil))))) (g_n 4 sc.nd)
      (ss_cons (s_asgEe (ee_cal (okg__law_factor Z ht) (hr.mono (by omega)) (pm_cons (se_var 0) (pm_cons (se_var 1) (pm_here (i := 2) (sa_cons (se_var 3) sa_nil))))) (g_t rfl (gs_cons (g_n 7 sc.nd) (gs_cons (g_n 8 sc.nd) gs_nil))))
      (ss_cons (s_set sc.nd (se_op2 op_addD (se_op2 op_addD (se_var 5) se_str) (se_var 7)))
      (ss_one (s_set sc.nd (se_cal (ok__law_times Z) (hr.mono (by omega)) (sa_cons (se_var 0) (sa_cons (se_var 6) (sa_cons (se_var 8) sa_nil)))))))))
      (ss_one (s_rtS (i := 2) (ee_pure (se_tup (sa_cons (se_var 5) (sa_cons (se_var 6) sa_nil)))))))), (Z.glo 52), F.kp, (F.bindsN fun _ _ _ _ _ _ us hl => match us, hl with | [_, _, _, _], _ => rfl)⟩
def N__law_scaled : List Str := ["_law_prime", "_law_one", "_law_number", "_law_rows", "_law_power", "_law_each", "_law_row"]
def F__law_scaled : Fn := fnc 3 7
    (sq (setE 3 (lcE (iTp (var 1)) (.t [(.n 4), (.n 5)]) yes (tupE (aC (var 4) (aC (op2 modD (cal (f1 intD) (aC (op2 mulD (var 5) (var 2)) aN)) (var 0)) aN))) [4, 5]))
      (rt (op1 ftupD (lcE (iLst (var 3)) (.n 6) (cmp (neg eqD) (op2 getD (var 6) (cst (.int 1))) (cst (.int 0))) (var 6) [6]))))
theorem sc__law_scaled : FnScope N__law_scaled ["_law_prime", "_law_one", "_law_number"] (defScope (topS 47)) := ⟨rfl, rfl, rfl, by decide +kernel, rfl, by decide +kernel, by decide +kernel⟩
theorem ok__law_scaled (Z : ZF fa fn exl K mg) : CallOk P w K mg base 1 "_law_scaled" F__law_scaled := by
  obtain ⟨fd, F⟩ := Z.says.def_ 15 (d := d15)
  have sc := sc__law_scaled
  exact ⟨_, fd, _, fn_sound F sc fun cdv A outer s H hr =>
    (ss_cons (s_setLc rfl sc.nd (sw_true rfl rfl rfl (by decide +kernel)) (si_tup (se_var 1)) (blkOk_by (own := [("_law_power", 4), ("_law_each", 5)]) (N := N__law_scaled) (sc := defScope (topS 47)) (by decide +kernel)) (fun _ _ _ _ _ => (g_t rfl (gs_cons (g_n 4 sc.nd) (gs_cons (g_n 5 sc.nd) gs_nil)))) (fun _ _ _ _ _ => (se_tup (sa_cons (se_var 4) (sa_cons (se_op2 op_modD (se_btyI imm_intD cr_intD (Z.free 1) PyProof.Rows.boot_int (sa_cons (se_op2 op_mulD (se_var 5) (se_var 2)) sa_nil)) (se_var 0)) sa_nil)))))
      (ss_one (s_ret (se_ftuple (Z.free 14) (SN.se (sn_lcI rfl sc.nd (si_list (se_var 3)) (blkOk_by (own := [("_law_row", 6)]) (N := N__law_scaled) (sc := defScope (topS 47)) (by decide +kernel)) (fun _ _ _ _ _ => (g_n 6 sc.nd)) (fun _ _ _ _ _ => (st_cmp (op_neDD hr.units) (se_get (se_var 6) se_int) se_int)) (fun _ _ _ _ _ => (se_var 6)))))))), (Z.glo 53), F.kp, (F.bindsN fun _ _ _ _ _ _ us hl => match us, hl with | [_, _, _], _ => rfl)⟩
def N__law_plus : List Str := ["_law_prime", "_law_one", "_law_other", "_law_numbers", "_law_power", "_law_number"]
def F__law_plus : Fn := fnc 3 6
    (sq (newE 3 (cst (.dic true [] [])))
      (sq (forE (iTp (op2 addD (var 1) (var 2))) (.t [(.n 4), (.n 5)])
      (stK 3 (var 4) (imm (op2 addD (op3 getK2 (ovar 3) (var 4) (cst (.int 0))) (var 5)))))
      (rt (cal F__law_made (aC (var 0) (aC (ovar 3) aN))))))
theorem sc__law_plus : FnScope N__law_plus ["_law_prime", "_law_one", "_law_other"] (defScope (topS 46)) := ⟨rfl, rfl, rfl, by decide +kernel, rfl, by decide +kernel, by decide +kernel⟩
theorem ok__law_plus (Z : ZF fa fn exl K mg) : CallOk P w K mg base 2 "_law_plus" F__law_plus := by
  obtain ⟨fd, F⟩ := Z.says.def_ 16 (d := d16)
  have sc := sc__law_plus
  exact ⟨_, fd, _, fn_sound F sc fun cdv A outer s H hr =>
    (ss_cons (s_new sc.nd sn_dnewT)
      (ss_cons (s_for PassesOwn.never rfl (si_tup (se_op2 op_addD (se_var 1) (se_var 2))) (g_t rfl (gs_cons (g_n 4 sc.nd) (gs_cons (g_n 5 sc.nd) gs_nil)))
      (ss_one (s_stK (hu_of hr) (se_var 4) (se_imm (se_op2 op_addD (se_getK2 (hu_of hr) (se_ovar 3) (se_var 4) se_int) (se_var 5))))))
      (ss_one (s_ret (se_cal (ok__law_made Z) (hr.mono (by decide)) (sa_cons (se_var 0) (sa_cons (se_ovar 3) sa_nil))))))), (Z.glo 54), F.kp, (F.bindsN fun _ _ _ _ _ _ us hl => match us, hl with | [_, _, _], _ => rfl)⟩
def N__law_sum : List Str := ["_law_prime", "_law_names_here", "_law_state", "_law_depth", "_law_count", "_law_text", "_law_found", "_law_k", "_law_sign", "_law_more", "_law_one"]
def F__law_sum_rec : Nat → Fn
  | 0 => fncS 2 4 11 (fun _ => none)
  | fu + 1 => fncS 2 4 11
    (sq (setE 4 (cal (f1 lenD) (aC (var 1) aN)))
      (sq (setE 5 (cst (.str "")))
      (sq (setE 6 (tupE aN))
      (sq (forEe (iRngE (eop2 addD (puE (cst (.int 1))) (eop2 getD (puE (lstE (aC (cst (.int 0)) (aC (cst (.int 0)) (aC (cst (.int 1)) (aC (cst (.int 2)) aN)))))) (eCal F__law_take 2 0 aN (aC (cst (.int 4)) aN))))) (.n 7)
      (sq (asgEe (.t [(.n 9), (.n 10)]) (eCal (F__law_product_g (F__law_sum_rec fu)) 2 2 (aC (var 0) (aC (var 1) aN)) (aC (var 3) aN)))
      (sq (setEe 8 (eop2 getD (puE (lstE (aC (cst (.str "")) (aC (cst (.str "-")) (aC (cst (.str "+")) (aC (cst (.str "-")) aN)))))) (eop2 addD (puE (op2 mulD (cst (.int 2)) (cal (f1 intD) (aC (boo (cmp (flip ltD) (var 7) (cst (.int 0)))) aN)))) (bE intD (booE (cmpE eqD (eCal F__law_take 2 0 aN (aC (cst (.int 4)) aN)) (puE (cst (.int 0)))))))))
      (sq (setEe 5 (eop2 addD (eop2 addD (eop2 addD (puE (var 5)) (eCal F__law_gap 2 0 aN aN)) (puE (var 8))) (puE (var 9))))
      (setE 6 (cal F__law_plus (aC (var 0) (aC (var 6) (aC (cal F__law_scaled (aC (var 0) (aC (var 10) (aC (op2 getD (lstE (aC (cst (.int 1)) (aC (op2 subD (var 0) (cst (.int 1))) aN))) (cal (f1 intD) (aC (boo (cmp eqD (var 8) (cst (.str "-")))) aN))) aN)))) aN)))))))))
      (rtS 2 (eTup (eC (eop2 addD (puE (var 5)) (eCal F__law_gap 2 0 aN aN)) (eC (puE (var 6)) eN))))))))
def F__law_sum : Fn := F__law_sum_rec 4
theorem sc__law_sum : FnScope N__law_sum ["_law_prime", "_law_names_here", "_law_state", "_law_depth"] (defScope (topS 55)) := ⟨rfl, rfl, rfl, by decide +kernel, rfl, by decide +kernel, by decide +kernel⟩
theorem okr__law_sum (fu : Nat) (Z : ZF fa fn exl K mg) : CallS P w K mg base (3 + (4 * fu + 1)) "_law_sum" 2 (F__law_sum_rec fu) := by
  obtain ⟨fd, F⟩ := Z.says.def_ 17 (d := d17)
  have sc := sc__law_sum
  induction fu with
  | zero => exact ⟨_, fd, ["_law_prime", "_law_names_here", "_law_state", "_law_depth"], by
    letI : RT := RT.st
    exact fnS_sound (k := 3 + 4 * 0) F sc rfl rfl (by decide) fun cdv A outer s H hr => ss_nope, (Z.glo 55), F.kp, (F.bindsN fun _ _ _ _ _ _ us hl => match us, hl with | [_, _, _, _], _ => rfl)⟩
  | succ fu ih => exact ⟨_, fd, ["_law_prime", "_law_names_here", "_law_state", "_law_depth"], by
    letI : RT := RT.st
    exact fnS_sound (k := 3 + 4 * (fu + 1)) F sc rfl rfl (by decide) fun cdv A outer s H hr => (ss_cons (s_set sc.nd (se_bltI imm_lenD cr_lenD (Z.free 12) boot_len (sa_cons (se_var 1) sa_nil)))
      (ss_cons (s_set sc.nd se_str)
      (ss_cons (s_set sc.nd (se_tup sa_nil))
      (ss_cons (s_forE PassesOwn.never rfl (si_rngE (Z.free 2) (ee_op2 op_addD (ee_pure se_int) (ee_ix (ee_pure (SN.se (sn_lst (sa_cons se_int (sa_cons se_int (sa_cons se_int (sa_cons se_int sa_nil))))))) (ee_cal (ok__law_take Z) (hr.mono (by omega)) (pm_here (i := 2) (sa_cons se_int sa_nil)))))) (g_n 7 sc.nd)
      (ss_cons (s_asgEe (ee_cal (okg__law_product Z ih) (hr.mono (by omega)) (pm_cons (se_var 0) (pm_cons (se_var 1) (pm_here (i := 2) (sa_cons (se_var 3) sa_nil))))) (g_t rfl (gs_cons (g_n 9 sc.nd) (gs_cons (g_n 10 sc.nd) gs_nil))))
      (ss_cons (s_setEe sc.nd (ee_ix (ee_pure (SN.se (sn_lst (sa_cons se_str (sa_cons se_str (sa_cons se_str (sa_cons se_str sa_nil))))))) (ee_op2 op_addD (ee_pure (se_op2 op_mulD se_int (se_btyI imm_intD cr_intD (Z.free 1) PyProof.Rows.boot_int (sa_cons (se_cmp op_gtD (se_var 7) se_int) sa_nil)))) (ee_bty cr_intD (Z.free 1) PyProof.Rows.boot_int (ee_cmpV (op_eqDD hr.units) (ee_cal (ok__law_take Z) (hr.mono (by omega)) (pm_here (i := 2) (sa_cons se_int sa_nil))) (ee_pure se_int))))))
      (ss_cons (s_setEe sc.nd (ee_op2 op_addD (ee_op2 op_addD (ee_op2 op_addD (ee_pure (se_var 5)) (ee_cal (ok__law_gap Z) (hr.mono (by omega)) (pm_here (i := 2) sa_nil))) (ee_pure (se_var 8))) (ee_pure (se_var 9))))
      (ss_one (s_set sc.nd (se_cal (ok__law_plus Z) (hr.mono (by omega)) (sa_cons (se_var 0) (sa_cons (se_var 6) (sa_cons (se_cal (ok__law_scaled Z) (hr.mono (by omega)) (sa_cons (se_var 0) (sa_cons (se_var 10) (sa_cons (se_get (SN.se (sn_lst (sa_cons se_int (sa_cons (se_op2 op_subD (se_var 0) se_int) sa_nil)))) (se_btyI imm_intD cr_intD (Z.free 1) PyProof.Rows.boot_int (sa_cons (se_cmp (op_eqDD hr.units) (se_var 8) se_str) sa_nil))) sa_nil)))) sa_nil))))))))))
      (ss_one (s_rtS (i := 2) (ee_tup (ea_cons (ee_op2 op_addD (ee_pure (se_var 5)) (ee_cal (ok__law_gap Z) (hr.mono (by omega)) (pm_here (i := 2) sa_nil))) (ea_cons (ee_pure (se_var 6)) ea_nil))))))))), (Z.glo 55), F.kp, (F.bindsN fun _ _ _ _ _ _ us hl => match us, hl with | [_, _, _, _], _ => rfl)⟩
theorem ok__law_sum (Z : ZF fa fn exl K mg) : CallS P w K mg base 20 "_law_sum" 2 F__law_sum := (okr__law_sum Z (fu := 4))
def N__law_expression : List Str := ["_law_prime", "_law_names_here", "_law_cell_here"]
def F__law_expression : Fn := fnc 3 3
    (rt (nCal F__law_sum 2 (aC (var 0) (aC (var 1) aN)) (lstE (aC (cal F__law_digits (aC (var 2) (aC (cst (.int 5040)) (aC (cst (.int 97)) aN)))) (aC (cst (.int 0)) aN))) (aC (cst (.int 2)) aN)))
theorem sc__law_expression : FnScope N__law_expression ["_law_prime", "_law_names_here", "_law_cell_here"] (defScope (topS 60)) := ⟨rfl, rfl, rfl, by decide +kernel, rfl, by decide +kernel, by decide +kernel⟩
theorem ok__law_expression (Z : ZF fa fn exl K mg) : CallOk P w K mg base 21 "_law_expression" F__law_expression := by
  obtain ⟨fd, F⟩ := Z.says.def_ 18 (d := d18)
  have sc := sc__law_expression
  exact ⟨_, fd, _, fn_sound F sc fun cdv A outer s H hr =>
    (ss_one (s_ret (se_nCal (ok__law_sum Z) (hr.mono (by decide)) (pmn_cons (se_var 0) (pmn_cons (se_var 1) (pmn_here (sn_lst (sa_cons (se_cal (ok__law_digits Z) (hr.mono (by decide)) (sa_cons (se_var 2) (sa_cons se_int (sa_cons se_int sa_nil)))) (sa_cons se_int sa_nil))) (sa_cons se_int sa_nil))))))), (Z.glo 56), F.kp, (F.bindsN fun _ _ _ _ _ _ us hl => match us, hl with | [_, _, _], _ => rfl)⟩
def N__law_minus : List Str := ["_law_prime", "_law_one", "_law_other"]
def F__law_minus : Fn := fnc 3 3
    (rt (cal F__law_plus (aC (var 0) (aC (var 1) (aC (cal F__law_scaled (aC (var 0) (aC (var 2) (aC (op2 subD (var 0) (cst (.int 1))) aN)))) aN)))))
theorem sc__law_minus : FnScope N__law_minus ["_law_prime", "_law_one", "_law_other"] (defScope (topS 48)) := ⟨rfl, rfl, rfl, by decide +kernel, rfl, by decide +kernel, by decide +kernel⟩
theorem ok__law_minus (Z : ZF fa fn exl K mg) : CallOk P w K mg base 3 "_law_minus" F__law_minus := by
  obtain ⟨fd, F⟩ := Z.says.def_ 19 (d := d19)
  have sc := sc__law_minus
  exact ⟨_, fd, _, fn_sound F sc fun cdv A outer s H hr =>
    (ss_one (s_ret (se_cal (ok__law_plus Z) (hr.mono (by decide)) (sa_cons (se_var 0) (sa_cons (se_var 1) (sa_cons (se_cal (ok__law_scaled Z) (hr.mono (by decide)) (sa_cons (se_var 0) (sa_cons (se_var 2) (sa_cons (se_op2 op_subD (se_var 0) se_int) sa_nil)))) sa_nil)))))), (Z.glo 57), F.kp, (F.bindsN fun _ _ _ _ _ _ us hl => match us, hl with | [_, _, _], _ => rfl)⟩
def N_is_name : List Str := ["text", "char"]
def F_is_name : Fn := fnc 1 2
    (sq (ifS (orT (notT (chn leD leD (cst (.int 1)) (cal (f1 lenD) (aC (var 0) aN)) (cst (.int 12)))) (cmp (neg inS) (op2 getD (var 0) (cst (.int 0))) (cst (.str "abcdefghijklmnopqrstuvwxyz"))))
      (rt (cst (.bl false)))
      skip)
      (rt (cal (f1 allL) (aC (lcE (iSt (var 0)) (.n 1) yes (orV (boo (cmp inS (var 1) (cst (.str "abcdefghijklmnopqrstuvwxyz")))) (boo (cmp inS (var 1) (cst (.str "0123456789"))))) [1]) aN))))
theorem sc_is_name : FnScope N_is_name ["text"] (defScope (topS 14)) := ⟨rfl, rfl, rfl, by decide +kernel, rfl, by decide +kernel, by decide +kernel⟩
theorem ok_is_name (Z : ZF fa fn exl K mg) : CallOk P w K mg base 1 "is_name" F_is_name := by
  obtain ⟨fd, F⟩ := Z.says.def_ 20 (d := d20)
  have sc := sc_is_name
  exact ⟨_, fd, _, fn_sound F sc fun cdv A outer s H hr =>
    (ss_cons (s_if (SWd.st (sw_or (st_not (st_chn op_leD op_leD se_int (se_bltI imm_lenD cr_lenD (Z.free 12) boot_len (sa_cons (se_var 0) sa_nil)) (se_gint (Z.int 24)))) (sw_or1 (st_cmp op_ninSD (se_get (se_var 0) se_int) (se_gstr (Z.str 25))))))
      (ss_one (s_ret se_bl))
      ss_nil)
      (ss_one (s_ret (se_bltI imm_allL (cr_allL rfl) (Z.free 19) boot_all (sa_cons (SN.se (sn_lc rfl sc.nd (si_str (se_var 0)) (blkOk_by (own := [("char", 1)]) (N := N_is_name) (sc := defScope (topS 14)) (by decide +kernel)) (fun _ _ _ _ _ => (g_n 1 sc.nd)) (fun _ _ _ _ _ => (se_or (se_cmp op_inSD (se_var 1) (se_gstr (Z.str 25))) (se_one (se_cmp op_inSD (se_var 1) (se_gstr (Z.str 26)))))))) sa_nil))))), (Z.glo 58), F.kp, (F.bindsN fun _ _ _ _ _ _ us hl => match us, hl with | [_], _ => rfl)⟩
def N_Space___init__ : List Str := ["self", "prime", "names", "name"]
def F_Space___init__ : Fn := ini "Space" 3 4
    (sq (ifS (orT (inC true ([2, 3, 5, 7].map D.int) (var 1)) (notT (chn leD leD (cst (.int 1)) (cal (f1 lenD) (aC (var 2) aN)) (cst (.int 8)))))
      stuck
      skip)
      (sq (ifS (orT (notT (tes (cal (f1 allL) (aC (lcE (iLst (var 2)) (.n 3) yes (cal F_is_name (aC (var 3) aN)) [3]) aN)))) (cmp ltD (op1 lenSet (var 2)) (cal (f1 lenD) (aC (var 2) aN))))
      stuck
      skip)
      (sq (ifS (cmp (flip ltD) (cal (f1 lenD) (aC (var 2) aN)) (op1 (tabI [(2, 8), (3, 5), (5, 3), (7, 2)]) (var 1)))
      stuck
      skip)
      (sq (setF 0 "Space" "prime" (var 1))
      (sq (setF 0 "Space" "names" (op1 listD (var 2)))
      (setF 0 "Space" "count" (cal (f1 lenD) (aC (var 2) aN))))))))
theorem sc_Space___init__ : FnScope N_Space___init__ ["self", "prime", "names"] (defScope (inClass (topS 18) 0)) := ⟨rfl, rfl, rfl, by decide +kernel, rfl, by decide +kernel, by decide +kernel⟩
theorem ok_Space___init__ (Z : ZF fa fn exl K mg) : MakeOk P w K mg base 2 "Space" F_Space___init__ := by
  obtain ⟨fd, F⟩ := Z.says.def_ 21 (d := d21)
  have sc := sc_Space___init__
  exact ⟨_, _, fd, _, ini_sound F sc fun cdv A outer s H hr =>
    (ss_cons (s_if (SWd.st (sw_or (st_ninC (Z.exf 1) (Z.glo 17) (se_var 1)) (sw_or1 (st_not (st_chn op_leD op_leD se_int (se_bltI imm_lenD cr_lenD (Z.free 12) boot_len (sa_cons (se_var 2) sa_nil)) (se_gint (Z.int 18)))))))
      (ss_one s_stuck)
      ss_nil)
      (ss_cons (s_if (SWd.st (sw_or (st_not (st_tes (se_bltI imm_allL (cr_allL rfl) (Z.free 19) boot_all (sa_cons (SN.se (sn_lc rfl sc.nd (si_list (se_var 2)) (blkOk_by (own := [("name", 3)]) (N := N_Space___init__) (sc := defScope (inClass (topS 18) 0)) (by decide +kernel)) (fun _ _ _ _ _ => (g_n 3 sc.nd)) (fun _ _ _ _ _ => (se_cal (ok_is_name Z) (hr.mono (by decide)) (sa_cons (se_var 3) sa_nil))))) sa_nil)))) (sw_or1 (st_cmp op_ltD (se_lenSet rfl (Z.free 12) (Z.free 20) (se_var 2)) (se_bltI imm_lenD cr_lenD (Z.free 12) boot_len (sa_cons (se_var 2) sa_nil))))))
      (ss_one s_stuck)
      ss_nil)
      (ss_cons (s_if (st_cmp op_gtD (se_bltI imm_lenD cr_lenD (Z.free 12) boot_len (sa_cons (se_var 2) sa_nil)) (se_tabI (Z.exf 2) (Z.glo 21) (se_var 1)))
      (ss_one s_stuck)
      ss_nil)
      (ss_cons (s_setF (Z.at 7 8 9) (se_var 1))
      (ss_cons (s_setF (Z.at 7 8 10) (SN.se (sn_list (Z.free 22) (se_var 2))))
      (ss_one (s_setF (Z.at 7 8 23) (se_bltI imm_lenD cr_lenD (Z.free 12) boot_len (sa_cons (se_var 2) sa_nil))))))))), (Z.glo 7), (He.mkr_ok (Z.says.fact 59)), (F.bindsN fun _ _ _ _ _ _ us hl => match us, hl with | [_, _, _], _ => rfl)⟩
def N_read_space : List Str := ["lines", "words"]
def F_read_space : Fn := fnc 1 2
    (sq (setE 1 (op2 splD (op2 getD (var 0) (cst (.int 0))) (cst (.str " "))))
      (sq (ifS (orT (cmp (neg eqD) (cal (f1 lenD) (aC (var 1) aN)) (cst (.int 2))) (orT (cmp (neg eqD) (op2 getD (var 1) (cst (.int 0))) (cst (.str "numbers"))) (cmp (neg inTS) (op2 getD (var 1) (cst (.int 1))) (tupE (aC (cst (.str "2")) (aC (cst (.str "3")) (aC (cst (.str "5")) (aC (cst (.str "7")) aN))))))))
      stuck
      skip)
      (sq (ifS (orT (cmp ltD (cal (f1 lenD) (aC (var 0) aN)) (cst (.int 2))) (cmp (neg eqD) (slE slcT (op2 getD (var 0) (cst (.int 1))) prN (prt (cst (.int 9)))) (cst (.str "unknowns "))))
      stuck
      skip)
      (rt (cal (isIns "Space" F_Space___init__) (aC (op1 intS (op2 getD (var 1) (cst (.int 1)))) (aC (slE slcL (op2 splD (op2 getD (var 0) (cst (.int 1))) (cst (.str " "))) (prt (cst (.int 1))) prN) aN)))))))
theorem sc_read_space : FnScope N_read_space ["lines"] (defScope (topS 36)) := ⟨rfl, rfl, rfl, by decide +kernel, rfl, by decide +kernel, by decide +kernel⟩
theorem ok_read_space (Z : ZF fa fn exl K mg) : CallOk P w K mg base 4 "read_space" F_read_space := by
  obtain ⟨fd, F⟩ := Z.says.def_ 22 (d := d22)
  have sc := sc_read_space
  exact ⟨_, fd, _, fn_sound F sc fun cdv A outer s H hr =>
    (ss_cons (s_set sc.nd (SN.se (sn_split (se_get (se_var 0) se_int) se_str)))
      (ss_cons (s_if (SWd.st (sw_or (st_cmp (op_neDD hr.units) (se_bltI imm_lenD cr_lenD (Z.free 12) boot_len (sa_cons (se_var 1) sa_nil)) se_int) (sw_or (st_cmp (op_neDD hr.units) (se_get (se_var 1) se_int) se_str) (sw_or1 (st_cmp op_ninTS (se_get (se_var 1) se_int) (se_tup (sa_cons se_str (sa_cons se_str (sa_cons se_str (sa_cons se_str sa_nil))))))))))
      (ss_one s_stuck)
      ss_nil)
      (ss_cons (s_if (SWd.st (sw_or (st_cmp op_ltD (se_bltI imm_lenD cr_lenD (Z.free 12) boot_len (sa_cons (se_var 0) sa_nil)) se_int) (sw_or1 (st_cmp (op_neDD hr.units) (se_slT (se_get (se_var 0) se_int) so_none (so_some se_int)) se_str))))
      (ss_one s_stuck)
      ss_nil)
      (ss_one (s_try (Z.glo 16) fun pn xe => (ss_one (s_ret (se_mak (ok_Space___init__ Z) (hr.mono (by decide)) (sa_cons (se_intS (Z.free 1) (se_get (se_var 1) se_int)) (sa_cons (SN.se (sn_slL (SN.se (sn_split (se_get (se_var 0) se_int) se_str)) (so_some se_int) so_none)) sa_nil)))))))))), (Z.glo 60), F.kp, (F.bindsN fun _ _ _ _ _ _ us hl => match us, hl with | [_], _ => rfl)⟩
def N_Reader___init__ : List Str := ["self", "space", "text", "line", "at", "end"]
def F_Reader___init__ : Fn := ini "Reader" 6 6
    (sq (setF 0 "Reader" "space" (var 1))
      (sq (setF 0 "Reader" "text" (var 2))
      (sq (setF 0 "Reader" "line" (var 3))
      (sq (setF 0 "Reader" "at" (var 4))
      (setF 0 "Reader" "end" (var 5))))))
theorem sc_Reader___init__ : FnScope N_Reader___init__ ["self", "space", "text", "line", "at", "end"] (defScope (inClass (topS 33) 0)) := ⟨rfl, rfl, rfl, by decide +kernel, rfl, by decide +kernel, by decide +kernel⟩
theorem ok_Reader___init__ (Z : ZF fa fn exl K mg) : MakeOk P w K mg base 1 "Reader" F_Reader___init__ := by
  obtain ⟨fd, F⟩ := Z.says.def_ 23 (d := d23)
  have sc := sc_Reader___init__
  exact ⟨_, _, fd, _, ini_sound F sc fun cdv A outer s H hr =>
    (ss_cons (s_setF (Z.at 27 28 29) (se_var 1))
      (ss_cons (s_setF (Z.at 27 28 30) (se_var 2))
      (ss_cons (s_setF (Z.at 27 28 31) (se_var 3))
      (ss_cons (s_setF (Z.at 27 28 32) (se_var 4))
      (ss_one (s_setF (Z.at 27 28 33) (se_var 5))))))), (Z.glo 27), (He.mkr_ok (Z.says.fact 61)), (F.bindsN fun _ _ _ _ _ _ us hl => match us, hl with | [_, _, _, _, _, _], _ => rfl)⟩
def N_Reader_next_char : List Str := ["self"]
def F_Reader_next_char : Fn := fncS 0 1 1
    (sq (whE (andT (cmp ltD (fld ["Reader"] "at" (sv 0)) (fld ["Reader"] "end" (sv 0))) (cmp eqD (op2 getD (fld ["Reader"] "text" (sv 0)) (fld ["Reader"] "at" (sv 0))) (cst (.str " "))))
      (augF 0 "Reader" "at" (cst (.int 1))))
      (rtS 0 (puE (ife (cmp ltD (fld ["Reader"] "at" (sv 0)) (fld ["Reader"] "end" (sv 0))) (op2 getD (fld ["Reader"] "text" (sv 0)) (fld ["Reader"] "at" (sv 0))) (cst (.str ""))))))
theorem sc_Reader_next_char : FnScope N_Reader_next_char ["self"] (defScope (inClass (topS 33) 2)) := ⟨rfl, rfl, rfl, by decide +kernel, rfl, by decide +kernel, by decide +kernel⟩
theorem ok_Reader_next_char (Z : ZF fa fn exl K mg) : MethS P w K mg base 1 "Reader" "next_char" F_Reader_next_char := by
  obtain ⟨fd, F⟩ := Z.says.def_ 24 (d := d24)
  have sc := sc_Reader_next_char
  exact ⟨_, _, fd, ["self"], by
    letI : RT := RT.st
    exact fnS_sound F sc rfl rfl (by decide) fun cdv A outer s H hr => (ss_cons (s_while PassesOwn.never (SWd.st (sw_and (st_cmp op_ltD (se_fldS 0 (Z.at 27 28 32)) (se_fldS 0 (Z.at 27 28 33))) (sw_and1 (st_cmp (op_eqDD hr.units) (se_get (se_fldS 0 (Z.at 27 28 30)) (se_fldS 0 (Z.at 27 28 32))) se_str))))
      (ss_one (s_augF (i := 0) (Z.at 27 28 32) se_int)))
      (ss_one (s_rtS (i := 0) (ee_pure (se_ife (st_cmp op_ltD (se_fldS 0 (Z.at 27 28 32)) (se_fldS 0 (Z.at 27 28 33))) (se_get (se_fldS 0 (Z.at 27 28 30)) (se_fldS 0 (Z.at 27 28 32))) se_str))))), (Z.glo 27), (He.cls_ok (Z.says.fact 28)), (He.meth_ok (Z.says.fact 62)), (F.bindsN fun _ _ _ _ _ _ us hl => match us, hl with | [_], _ => rfl)⟩
def N_Reader_accept : List Str := ["self", "sign"]
def F_Reader_accept : Fn := fncS 0 2 2
    (sq (ifE (cmpE (neg eqD) (eMet "Reader" "next_char" F_Reader_next_char 0 aN) (puE (var 1)))
      (rtS 0 (puE (cst (.bl false))))
      skip)
      (sq (augF 0 "Reader" "at" (cst (.int 1)))
      (rtS 0 (puE (cst (.bl true))))))
theorem sc_Reader_accept : FnScope N_Reader_accept ["self", "sign"] (defScope (inClass (topS 33) 3)) := ⟨rfl, rfl, rfl, by decide +kernel, rfl, by decide +kernel, by decide +kernel⟩
theorem ok_Reader_accept (Z : ZF fa fn exl K mg) : MethS P w K mg base 2 "Reader" "accept" F_Reader_accept := by
  obtain ⟨fd, F⟩ := Z.says.def_ 25 (d := d25)
  have sc := sc_Reader_accept
  exact ⟨_, _, fd, ["self", "sign"], by
    letI : RT := RT.st
    exact fnS_sound F sc rfl rfl (by decide) fun cdv A outer s H hr => (ss_cons (s_ifE (et_cmp (op_neDD hr.units) (ee_met0 (i := 0) (ok_Reader_next_char Z) (hr.mono (by decide))) (ee_pure (se_var 1)))
      (ss_one (s_rtS (i := 0) (ee_pure se_bl)))
      ss_nil)
      (ss_cons (s_augF (i := 0) (Z.at 27 28 32) se_int)
      (ss_one (s_rtS (i := 0) (ee_pure se_bl))))), (Z.glo 27), (He.cls_ok (Z.says.fact 28)), (He.meth_ok (Z.says.fact 63)), (F.bindsN fun _ _ _ _ _ _ us hl => match us, hl with | [_, _], _ => rfl)⟩
def N_Reader_run : List Str := ["self", "allowed", "first"]
def F_Reader_run : Fn := fncS 0 2 3
    (sq (setE 2 (fld ["Reader"] "at" (sv 0)))
      (sq (whE (andT (cmp ltD (fld ["Reader"] "at" (sv 0)) (fld ["Reader"] "end" (sv 0))) (cmp inS (op2 getD (fld ["Reader"] "text" (sv 0)) (fld ["Reader"] "at" (sv 0))) (var 1)))
      (augF 0 "Reader" "at" (cst (.int 1))))
      (rtS 0 (puE (slE slcT (fld ["Reader"] "text" (sv 0)) (prt (var 2)) (prt (fld ["Reader"] "at" (sv 0))))))))
theorem sc_Reader_run : FnScope N_Reader_run ["self", "allowed"] (defScope (inClass (topS 33) 4)) := ⟨rfl, rfl, rfl, by decide +kernel, rfl, by decide +kernel, by decide +kernel⟩
theorem ok_Reader_run (Z : ZF fa fn exl K mg) : MethS P w K mg base 1 "Reader" "run" F_Reader_run := by
  obtain ⟨fd, F⟩ := Z.says.def_ 26 (d := d26)
  have sc := sc_Reader_run
  exact ⟨_, _, fd, ["self", "allowed"], by
    letI : RT := RT.st
    exact fnS_sound F sc rfl rfl (by decide) fun cdv A outer s H hr => (ss_cons (s_set sc.nd (se_fldS 0 (Z.at 27 28 32)))
      (ss_cons (s_while PassesOwn.never (SWd.st (sw_and (st_cmp op_ltD (se_fldS 0 (Z.at 27 28 32)) (se_fldS 0 (Z.at 27 28 33))) (sw_and1 (st_cmp op_inSD (se_get (se_fldS 0 (Z.at 27 28 30)) (se_fldS 0 (Z.at 27 28 32))) (se_var 1)))))
      (ss_one (s_augF (i := 0) (Z.at 27 28 32) se_int)))
      (ss_one (s_rtS (i := 0) (ee_pure (se_slT (se_fldS 0 (Z.at 27 28 30)) (so_some (se_var 2)) (so_some (se_fldS 0 (Z.at 27 28 32))))))))), (Z.glo 27), (He.cls_ok (Z.says.fact 28)), (He.meth_ok (Z.says.fact 64)), (F.bindsN fun _ _ _ _ _ _ us hl => match us, hl with | [_, _], _ => rfl)⟩
def N_Reader_number : List Str := ["self", "first", "word"]
def F_Reader_number : Fn := fncS 0 1 3
    (sq (ifE (orE (cmpE eqD (eMet "Reader" "next_char" F_Reader_next_char 0 aN) (puE (cst (.str "")))) (cmpE (neg inS) (eMet "Reader" "next_char" F_Reader_next_char 0 aN) (puE (cst (.str "0123456789")))))
      stuck
      skip)
      (sq (setE 1 (fld ["Reader"] "at" (sv 0)))
      (sq (setEe 2 (eMet "Reader" "run" F_Reader_run 0 (aC (cst (.str "0123456789")) aN)))
      (sq (ifS (orT (cmp (flip ltD) (cal (f1 lenD) (aC (var 2) aN)) (cst (.int 9))) (andT (cmp ltD (fld ["Reader"] "at" (sv 0)) (fld ["Reader"] "end" (sv 0))) (cmp inS (op2 getD (fld ["Reader"] "text" (sv 0)) (fld ["Reader"] "at" (sv 0))) (cst (.str "abcdefghijklmnopqrstuvwxyz")))))
      stuck
      skip)
      (rtS 0 (puE (op1 intS (var 2))))))))
theorem sc_Reader_number : FnScope N_Reader_number ["self"] (defScope (inClass (topS 33) 5)) := ⟨rfl, rfl, rfl, by decide +kernel, rfl, by decide +kernel, by decide +kernel⟩
theorem ok_Reader_number (Z : ZF fa fn exl K mg) : MethS P w K mg base 2 "Reader" "number" F_Reader_number := by
  obtain ⟨fd, F⟩ := Z.says.def_ 27 (d := d27)
  have sc := sc_Reader_number
  exact ⟨_, _, fd, ["self"], by
    letI : RT := RT.st
    exact fnS_sound F sc rfl rfl (by decide) fun cdv A outer s H hr => (ss_cons (s_ifE (EWd.et (ew_or (et_cmp (op_eqDD hr.units) (ee_met0 (i := 0) (ok_Reader_next_char Z) (hr.mono (by decide))) (ee_pure se_str)) (ew_or1 (et_cmp op_ninSD (ee_met0 (i := 0) (ok_Reader_next_char Z) (hr.mono (by decide))) (ee_pure (se_gstr (Z.str 26)))))))
      (ss_one s_stuck)
      ss_nil)
      (ss_cons (s_set sc.nd (se_fldS 0 (Z.at 27 28 32)))
      (ss_cons (s_setEe sc.nd (ee_met (ok_Reader_run Z) (hr.mono (by decide)) (sa_cons (se_gstr (Z.str 26)) sa_nil)))
      (ss_cons (s_if (SWd.st (sw_or (st_cmp op_gtD (se_bltI imm_lenD cr_lenD (Z.free 12) boot_len (sa_cons (se_var 2) sa_nil)) (se_gint (Z.int 34))) (sw_or1 (SWd.st (sw_and (st_cmp op_ltD (se_fldS 0 (Z.at 27 28 32)) (se_fldS 0 (Z.at 27 28 33))) (sw_and1 (st_cmp op_inSD (se_get (se_fldS 0 (Z.at 27 28 30)) (se_fldS 0 (Z.at 27 28 32))) (se_gstr (Z.str 25)))))))))
      (ss_one s_stuck)
      ss_nil)
      (ss_one (s_rtS (i := 0) (ee_pure (se_intS (Z.free 1) (se_var 2))))))))), (Z.glo 27), (He.cls_ok (Z.says.fact 28)), (He.meth_ok (Z.says.fact 65)), (F.bindsN fun _ _ _ _ _ _ us hl => match us, hl with | [_], _ => rfl)⟩
def N_Space_zero : List Str := ["self"]
def F_Space_zero : Fn := fnc 1 1
    (rt (op2 mulD (tupE (aC (cst (.int 0)) aN)) (fld ["Space"] "count" (var 0))))
theorem sc_Space_zero : FnScope N_Space_zero ["self"] (defScope (inClass (topS 18) 4)) := ⟨rfl, rfl, rfl, by decide +kernel, rfl, by decide +kernel, by decide +kernel⟩
theorem ok_Space_zero (Z : ZF fa fn exl K mg) : MethOk P w K mg base 1 "Space" "zero" F_Space_zero := by
  obtain ⟨fd, F⟩ := Z.says.def_ 28 (d := d28)
  have sc := sc_Space_zero
  exact ⟨_, _, fd, _, fn_sound F sc fun cdv A outer s H hr =>
    (ss_one (s_ret (se_op2 op_mulD (se_tup (sa_cons se_int sa_nil)) (se_fld (at_cons (Z.at 7 8 23) at_nil) (se_var 0))))), (Z.glo 7), (He.cls_ok (Z.says.fact 8)), (He.meth_ok (Z.says.fact 66)), (F.bindsN fun _ _ _ _ _ _ us hl => match us, hl with | [_], _ => rfl)⟩
def N_from_numbers : List Str := ["space", "numbers", "rest", "power", "number"]
def F_from_numbers : Fn := fnc 2 5
    (sq (setE 2 (dcE true (iItm (var 1)) (.t [(.n 3), (.n 4)]) (var 3) (op2 modD (var 4) (fld ["Space"] "prime" (var 0))) [3, 4]))
      (rt (op1 ftupD (lcE (iLst (op1 sortKR (var 2))) (.n 3) (cmp (neg eqD) (op2 getK (var 2) (var 3)) (cst (.int 0))) (tupE (aC (var 3) (aC (op2 getK (var 2) (var 3)) aN))) [3]))))
theorem sc_from_numbers : FnScope N_from_numbers ["space", "numbers"] (defScope (topS 20)) := ⟨rfl, rfl, rfl, by decide +kernel, rfl, by decide +kernel, by decide +kernel⟩
theorem ok_from_numbers (Z : ZF fa fn exl K mg) : CallOk P w K mg base 1 "from_numbers" F_from_numbers := by
  obtain ⟨fd, F⟩ := Z.says.def_ 29 (d := d29)
  have sc := sc_from_numbers
  exact ⟨_, fd, _, fn_sound F sc fun cdv A outer s H hr =>
    (ss_cons (s_set sc.nd (SN.se (sn_dcItems (i := 1) (hu_of hr) rfl sc.nd (blkOk_by (own := [("power", 3), ("number", 4)]) (N := N_from_numbers) (sc := defScope (topS 20)) (by decide +kernel)) (fun _ _ _ _ _ => (g_t rfl (gs_cons (g_n 3 sc.nd) (gs_cons (g_n 4 sc.nd) gs_nil)))) (fun _ _ _ _ _ => (se_var 3)) (fun _ _ _ _ _ => (se_op2 op_modD (se_var 4) (se_fld (at_cons (Z.at 7 8 9) at_nil) (se_var 0)))))))
      (ss_one (s_ret (se_ftuple (Z.free 14) (SN.se (sn_lcI rfl sc.nd (si_list (SN.se (sn_sortKR rfl hr.units (Z.free 13) (se_var 2)))) (blkOk_by (own := [("power", 3)]) (N := N_from_numbers) (sc := defScope (topS 20)) (by decide +kernel)) (fun _ _ _ _ _ => (g_n 3 sc.nd)) (fun _ _ _ _ _ => (st_cmp (op_neDD hr.units) (se_getK (hu_of hr) (se_var 2) (se_var 3)) se_int)) (fun _ _ _ _ _ => (se_tup (sa_cons (se_var 3) (sa_cons (se_getK (hu_of hr) (se_var 2) (se_var 3)) sa_nil)))))))))), (Z.glo 67), F.kp, (F.bindsN fun _ _ _ _ _ _ us hl => match us, hl with | [_, _], _ => rfl)⟩
def N_constant : List Str := ["space", "number"]
def F_constant : Fn := fnc 2 2
    (rt (cal F_from_numbers (aC (var 0) (aC (dic1 (met [("Space", F_Space_zero)] "zero" (var 0) aN) (var 1)) aN))))
theorem sc_constant : FnScope N_constant ["space", "number"] (defScope (topS 21)) := ⟨rfl, rfl, rfl, by decide +kernel, rfl, by decide +kernel, by decide +kernel⟩
theorem ok_constant (Z : ZF fa fn exl K mg) : CallOk P w K mg base 2 "constant" F_constant := by
  obtain ⟨fd, F⟩ := Z.says.def_ 30 (d := d30)
  have sc := sc_constant
  exact ⟨_, fd, _, fn_sound F sc fun cdv A outer s H hr =>
    (ss_one (s_ret (se_cal (ok_from_numbers Z) (hr.mono (by decide)) (sa_cons (se_var 0) (sa_cons (SN.se (sn_dic1 (hu_of hr) (se_met0 (ok_Space_zero Z) (hr.mono (by decide)) (se_var 0)) (se_var 1))) sa_nil))))), (Z.glo 68), F.kp, (F.bindsN fun _ _ _ _ _ _ us hl => match us, hl with | [_, _], _ => rfl)⟩
def N_Reader_name : List Str := ["self", "first", "word"]
def F_Reader_name : Fn := fncS 0 1 3
    (sq (setE 1 (fld ["Reader"] "at" (sv 0)))
      (sq (setEe 2 (eMet "Reader" "run" F_Reader_run 0 (aC (op2 addD (cst (.str "abcdefghijklmnopqrstuvwxyz")) (cst (.str "0123456789"))) aN)))
      (sq (ifS (orT (cmp (flip ltD) (cal (f1 lenD) (aC (var 2) aN)) (cst (.int 12))) (cmp (neg inL) (var 2) (fld ["Space"] "names" (fld ["Reader"] "space" (sv 0)))))
      stuck
      skip)
      (rtS 0 (puE (op2 indL (fld ["Space"] "names" (fld ["Reader"] "space" (sv 0))) (var 2)))))))
theorem sc_Reader_name : FnScope N_Reader_name ["self"] (defScope (inClass (topS 33) 6)) := ⟨rfl, rfl, rfl, by decide +kernel, rfl, by decide +kernel, by decide +kernel⟩
theorem ok_Reader_name (Z : ZF fa fn exl K mg) : MethS P w K mg base 2 "Reader" "name" F_Reader_name := by
  obtain ⟨fd, F⟩ := Z.says.def_ 31 (d := d31)
  have sc := sc_Reader_name
  exact ⟨_, _, fd, ["self"], by
    letI : RT := RT.st
    exact fnS_sound F sc rfl rfl (by decide) fun cdv A outer s H hr => (ss_cons (s_set sc.nd (se_fldS 0 (Z.at 27 28 32)))
      (ss_cons (s_setEe sc.nd (ee_met (ok_Reader_run Z) (hr.mono (by decide)) (sa_cons (se_op2 op_addD (se_gstr (Z.str 25)) (se_gstr (Z.str 26))) sa_nil)))
      (ss_cons (s_if (SWd.st (sw_or (st_cmp op_gtD (se_bltI imm_lenD cr_lenD (Z.free 12) boot_len (sa_cons (se_var 2) sa_nil)) (se_gint (Z.int 24))) (sw_or1 (st_cmp (op_ninLD (hu65 hr)) (se_var 2) (se_fld (at_cons (Z.at 7 8 10) at_nil) (se_fldS 0 (Z.at 27 28 29)))))))
      (ss_one s_stuck)
      ss_nil)
      (ss_one (s_rtS (i := 0) (ee_pure (se_index (hu65 hr) (se_fld (at_cons (Z.at 7 8 10) at_nil) (se_fldS 0 (Z.at 27 28 29))) (se_var 2)))))))), (Z.glo 27), (He.cls_ok (Z.says.fact 28)), (He.meth_ok (Z.says.fact 69)), (F.bindsN fun _ _ _ _ _ _ us hl => match us, hl with | [_], _ => rfl)⟩
def N_unknown : List Str := ["space", "index", "k"]
def F_unknown : Fn := fnc 2 3
    (rt (cal F_from_numbers (aC (var 0) (aC (dic1 (op1 tupD (lcE (iRng (one1 (aC (fld ["Space"] "count" (var 0)) aN))) (.n 2) yes (cal (f1 intD) (aC (boo (cmp eqD (var 2) (var 1))) aN)) [2])) (cst (.int 1))) aN))))
theorem sc_unknown : FnScope N_unknown ["space", "index"] (defScope (topS 22)) := ⟨rfl, rfl, rfl, by decide +kernel, rfl, by decide +kernel, by decide +kernel⟩
theorem ok_unknown (Z : ZF fa fn exl K mg) : CallOk P w K mg base 2 "unknown" F_unknown := by
  obtain ⟨fd, F⟩ := Z.says.def_ 32 (d := d32)
  have sc := sc_unknown
  exact ⟨_, fd, _, fn_sound F sc fun cdv A outer s H hr =>
    (ss_one (s_ret (se_cal (ok_from_numbers Z) (hr.mono (by decide)) (sa_cons (se_var 0) (sa_cons (SN.se (sn_dic1 (hu_of hr) (se_tuple (Z.free 14) (SN.se (sn_lc rfl sc.nd (si_rng1 (Z.free 2) (sa_cons (se_fld (at_cons (Z.at 7 8 23) at_nil) (se_var 0)) sa_nil)) (blkOk_by (own := [("k", 2)]) (N := N_unknown) (sc := defScope (topS 22)) (by decide +kernel)) (fun _ _ _ _ _ => (g_n 2 sc.nd)) (fun _ _ _ _ _ => (se_btyI imm_intD cr_intD (Z.free 1) PyProof.Rows.boot_int (sa_cons (se_cmp (op_eqDD hr.units) (se_var 2) (se_var 1)) sa_nil)))))) se_int)) sa_nil))))), (Z.glo 70), F.kp, (F.bindsN fun _ _ _ _ _ _ us hl => match us, hl with | [_, _], _ => rfl)⟩
def N_Reader_base : List Str := ["self", "char", "found"]
def F_Reader_base_g (t : Fn) : Fn := fncS 0 1 3
    (sq (setEe 1 (eMet "Reader" "next_char" F_Reader_next_char 0 aN))
      (sq (ifS (andT (cmp (neg eqD) (var 1) (cst (.str ""))) (cmp inS (var 1) (cst (.str "0123456789"))))
      (rtS 0 (calE F_constant (eC (puE (fld ["Reader"] "space" (sv 0))) (eC (eMet "Reader" "number" F_Reader_number 0 aN) eN))))
      skip)
      (sq (ifS (andT (cmp (neg eqD) (var 1) (cst (.str ""))) (cmp inS (var 1) (cst (.str "abcdefghijklmnopqrstuvwxyz"))))
      (rtS 0 (calE F_unknown (eC (puE (fld ["Reader"] "space" (sv 0))) (eC (eMet "Reader" "name" F_Reader_name 0 aN) eN))))
      skip)
      (sq (ifE (notE (tesE (eMet "Reader" "accept" F_Reader_accept 0 (aC (cst (.str "(")) aN))))
      stuck
      skip)
      (sq (setEe 2 (eMet "Reader" "terms" t 0 aN))
      (sq (ifE (notE (tesE (eMet "Reader" "accept" F_Reader_accept 0 (aC (cst (.str ")")) aN))))
      stuck
      skip)
      (rtS 0 (puE (var 2)))))))))
theorem sc_Reader_base : FnScope N_Reader_base ["self"] (defScope (inClass (topS 33) 7)) := ⟨rfl, rfl, rfl, by decide +kernel, rfl, by decide +kernel, by decide +kernel⟩
theorem okg_Reader_base (Z : ZF fa fn exl K mg) {t : Fn} {L : Nat} (ht : MethS P w K mg base (3 + L) "Reader" "terms" t) : MethS P w K mg base (3 + L + 1) "Reader" "base" (F_Reader_base_g t) := by
  obtain ⟨fd, F⟩ := Z.says.def_ 33 (d := d33)
  have sc := sc_Reader_base
  exact ⟨_, _, fd, ["self"], by
    letI : RT := RT.st
    exact fnS_sound F sc rfl rfl (by decide) fun cdv A outer s H hr => (ss_cons (s_setEe sc.nd (ee_met0 (i := 0) (ok_Reader_next_char Z) (hr.mono (by omega))))
      (ss_cons (s_if (SWd.st (sw_and (st_cmp (op_neDD hr.units) (se_var 1) se_str) (sw_and1 (st_cmp op_inSD (se_var 1) (se_gstr (Z.str 26))))))
      (ss_one (s_rtS (i := 0) (ee_calE (ok_constant Z) (hr.mono (by omega)) (ea_cons (ee_pure (se_fldS 0 (Z.at 27 28 29))) (ea_cons (ee_met0 (i := 0) (ok_Reader_number Z) (hr.mono (by omega))) ea_nil)))))
      ss_nil)
      (ss_cons (s_if (SWd.st (sw_and (st_cmp (op_neDD hr.units) (se_var 1) se_str) (sw_and1 (st_cmp op_inSD (se_var 1) (se_gstr (Z.str 25))))))
      (ss_one (s_rtS (i := 0) (ee_calE (ok_unknown Z) (hr.mono (by omega)) (ea_cons (ee_pure (se_fldS 0 (Z.at 27 28 29))) (ea_cons (ee_met0 (i := 0) (ok_Reader_name Z) (hr.mono (by omega))) ea_nil)))))
      ss_nil)
      (ss_cons (s_ifE (et_not (et_tes (ee_met (ok_Reader_accept Z) (hr.mono (by omega)) (sa_cons se_str sa_nil))))
      (ss_one s_stuck)
      ss_nil)
      (ss_cons (s_setEe sc.nd (ee_met0 (i := 0) ht (hr.mono (by omega))))
      (ss_cons (s_ifE (et_not (et_tes (ee_met (ok_Reader_accept Z) (hr.mono (by omega)) (sa_cons se_str sa_nil))))
      (ss_one s_stuck)
      ss_nil)
      (ss_one (s_rtS (i := 0) (ee_pure (se_var 2)))))))))), (Z.glo 27), (He.cls_ok (Z.says.fact 28)), (He.meth_ok (Z.says.fact 71)), (F.bindsN fun _ _ _ _ _ _ us hl => match us, hl with | [_], _ => rfl)⟩
def N_lessened : List Str := ["prime", "exponent"]
def F_lessened : Fn := fnc 2 2
    (sq (ifS (cmp ltD (var 1) (var 0))
      (rt (var 1))
      skip)
      (rt (op2 addD (op2 modD (op2 subD (var 1) (cst (.int 1))) (op2 subD (var 0) (cst (.int 1)))) (cst (.int 1)))))
theorem sc_lessened : FnScope N_lessened ["prime", "exponent"] (defScope (topS 26)) := ⟨rfl, rfl, rfl, by decide +kernel, rfl, by decide +kernel, by decide +kernel⟩
theorem ok_lessened (Z : ZF fa fn exl K mg) : CallOk P w K mg base 1 "lessened" F_lessened := by
  obtain ⟨fd, F⟩ := Z.says.def_ 34 (d := d34)
  have sc := sc_lessened
  exact ⟨_, fd, _, fn_sound F sc fun cdv A outer s H hr =>
    (ss_cons (s_if (st_cmp op_ltD (se_var 1) (se_var 0))
      (ss_one (s_ret (se_var 1)))
      ss_nil)
      (ss_one (s_ret (se_op2 op_addD (se_op2 op_modD (se_op2 op_subD (se_var 1) se_int) (se_op2 op_subD (se_var 0) se_int)) se_int)))), (Z.glo 72), F.kp, (F.bindsN fun _ _ _ _ _ _ us hl => match us, hl with | [_, _], _ => rfl)⟩
def N_times : List Str := ["space", "one", "other", "numbers", "power", "number", "second", "factor", "both", "here", "there"]
def F_times : Fn := fnc 3 11
    (sq (newE 3 (cst (.dic true [] [])))
      (sq (forE (iTp (var 1)) (.t [(.n 4), (.n 5)])
      (forE (iTp (var 2)) (.t [(.n 6), (.n 7)])
      (sq (setE 8 (op1 tupD (lcE (iZp (aC (var 4) (aC (var 6) aN))) (.t [(.n 9), (.n 10)]) yes (cal F_lessened (aC (fld ["Space"] "prime" (var 0)) (aC (op2 addD (var 9) (var 10)) aN))) [9, 10])))
      (stK 3 (var 8) (imm (op2 modD (op2 addD (op3 getK2 (ovar 3) (var 8) (cst (.int 0))) (op2 mulD (var 5) (var 7))) (fld ["Space"] "prime" (var 0))))))))
      (rt (cal F_from_numbers (aC (var 0) (aC (ovar 3) aN))))))
theorem sc_times : FnScope N_times ["space", "one", "other"] (defScope (topS 27)) := ⟨rfl, rfl, rfl, by decide +kernel, rfl, by decide +kernel, by decide +kernel⟩
theorem ok_times (Z : ZF fa fn exl K mg) : CallOk P w K mg base 2 "times" F_times := by
  obtain ⟨fd, F⟩ := Z.says.def_ 35 (d := d35)
  have sc := sc_times
  exact ⟨_, fd, _, fn_sound F sc fun cdv A outer s H hr =>
    (ss_cons (s_new sc.nd sn_dnewT)
      (ss_cons (s_for PassesOwn.never rfl (si_tup (se_var 1)) (g_t rfl (gs_cons (g_n 4 sc.nd) (gs_cons (g_n 5 sc.nd) gs_nil)))
      (ss_one (s_for PassesOwn.never rfl (si_tup (se_var 2)) (g_t rfl (gs_cons (g_n 6 sc.nd) (gs_cons (g_n 7 sc.nd) gs_nil)))
      (ss_cons (s_set sc.nd (se_tuple (Z.free 14) (SN.se (sn_lc rfl sc.nd (si_zip (Z.free 35) (sa_cons (se_var 4) (sa_cons (se_var 6) sa_nil))) (blkOk_by (own := [("here", 9), ("there", 10)]) (N := N_times) (sc := defScope (topS 27)) (by decide +kernel)) (fun _ _ _ _ _ => (g_t rfl (gs_cons (g_n 9 sc.nd) (gs_cons (g_n 10 sc.nd) gs_nil)))) (fun _ _ _ _ _ => (se_cal (ok_lessened Z) (hr.mono (by decide)) (sa_cons (se_fld (at_cons (Z.at 7 8 9) at_nil) (se_var 0)) (sa_cons (se_op2 op_addD (se_var 9) (se_var 10)) sa_nil))))))))
      (ss_one (s_stK (hu_of hr) (se_var 8) (se_imm (se_op2 op_modD (se_op2 op_addD (se_getK2 (hu_of hr) (se_ovar 3) (se_var 8) se_int) (se_op2 op_mulD (se_var 5) (se_var 7))) (se_fld (at_cons (Z.at 7 8 9) at_nil) (se_var 0))))))))))
      (ss_one (s_ret (se_cal (ok_from_numbers Z) (hr.mono (by decide)) (sa_cons (se_var 0) (sa_cons (se_ovar 3) sa_nil))))))), (Z.glo 73), F.kp, (F.bindsN fun _ _ _ _ _ _ us hl => match us, hl with | [_, _, _], _ => rfl)⟩
def N_raised : List Str := ["space", "one", "exponent", "found", "_"]
def F_raised : Fn := fnc 3 5
    (sq (setE 3 (cal F_constant (aC (var 0) (aC (cst (.int 1)) aN))))
      (sq (forE (iRng (one1 (aC (cal F_lessened (aC (fld ["Space"] "prime" (var 0)) (aC (var 2) aN))) aN))) (.n 4)
      (setE 3 (cal F_times (aC (var 0) (aC (var 3) (aC (var 1) aN))))))
      (rt (var 3))))
theorem sc_raised : FnScope N_raised ["space", "one", "exponent"] (defScope (topS 28)) := ⟨rfl, rfl, rfl, by decide +kernel, rfl, by decide +kernel, by decide +kernel⟩
theorem ok_raised (Z : ZF fa fn exl K mg) : CallOk P w K mg base 3 "raised" F_raised := by
  obtain ⟨fd, F⟩ := Z.says.def_ 36 (d := d36)
  have sc := sc_raised
  exact ⟨_, fd, _, fn_sound F sc fun cdv A outer s H hr =>
    (ss_cons (s_set sc.nd (se_cal (ok_constant Z) (hr.mono (by decide)) (sa_cons (se_var 0) (sa_cons se_int sa_nil))))
      (ss_cons (s_for PassesOwn.never rfl (si_rng1 (Z.free 2) (sa_cons (se_cal (ok_lessened Z) (hr.mono (by decide)) (sa_cons (se_fld (at_cons (Z.at 7 8 9) at_nil) (se_var 0)) (sa_cons (se_var 2) sa_nil))) sa_nil)) (g_n 4 sc.nd)
      (ss_one (s_set sc.nd (se_cal (ok_times Z) (hr.mono (by decide)) (sa_cons (se_var 0) (sa_cons (se_var 3) (sa_cons (se_var 1) sa_nil)))))))
      (ss_one (s_ret (se_var 3))))), (Z.glo 74), F.kp, (F.bindsN fun _ _ _ _ _ _ us hl => match us, hl with | [_, _, _], _ => rfl)⟩
def N_Reader_factor : List Str := ["self", "found"]
def F_Reader_factor_g (t : Fn) : Fn := fncS 0 1 2
    (sq (setEe 1 (eMet "Reader" "base" (F_Reader_base_g t) 0 aN))
      (sq (ifE (tesE (eMet "Reader" "accept" F_Reader_accept 0 (aC (cst (.str "^")) aN)))
      (rtS 0 (calE F_raised (eC (puE (fld ["Reader"] "space" (sv 0))) (eC (puE (var 1)) (eC (eMet "Reader" "number" F_Reader_number 0 aN) eN)))))
      skip)
      (rtS 0 (puE (var 1)))))
theorem sc_Reader_factor : FnScope N_Reader_factor ["self"] (defScope (inClass (topS 33) 8)) := ⟨rfl, rfl, rfl, by decide +kernel, rfl, by decide +kernel, by decide +kernel⟩
theorem okg_Reader_factor (Z : ZF fa fn exl K mg) {t : Fn} {L : Nat} (ht : MethS P w K mg base (3 + L) "Reader" "terms" t) : MethS P w K mg base (3 + L + 2) "Reader" "factor" (F_Reader_factor_g t) := by
  obtain ⟨fd, F⟩ := Z.says.def_ 37 (d := d37)
  have sc := sc_Reader_factor
  exact ⟨_, _, fd, ["self"], by
    letI : RT := RT.st
    exact fnS_sound F sc rfl rfl (by decide) fun cdv A outer s H hr => (ss_cons (s_setEe sc.nd (ee_met0 (i := 0) (okg_Reader_base Z ht) (hr.mono (by omega))))
      (ss_cons (s_ifE (et_tes (ee_met (ok_Reader_accept Z) (hr.mono (by omega)) (sa_cons se_str sa_nil)))
      (ss_one (s_rtS (i := 0) (ee_calE (ok_raised Z) (hr.mono (by omega)) (ea_cons (ee_pure (se_fldS 0 (Z.at 27 28 29))) (ea_cons (ee_pure (se_var 1)) (ea_cons (ee_met0 (i := 0) (ok_Reader_number Z) (hr.mono (by omega))) ea_nil))))))
      ss_nil)
      (ss_one (s_rtS (i := 0) (ee_pure (se_var 1)))))), (Z.glo 27), (He.cls_ok (Z.says.fact 28)), (He.meth_ok (Z.says.fact 75)), (F.bindsN fun _ _ _ _ _ _ us hl => match us, hl with | [_], _ => rfl)⟩
def N_Reader_product : List Str := ["self", "found"]
def F_Reader_product_g (t : Fn) : Fn := fncS 0 1 2
    (sq (setEe 1 (eMet "Reader" "factor" (F_Reader_factor_g t) 0 aN))
      (sq (whEe (tesE (eMet "Reader" "accept" F_Reader_accept 0 (aC (cst (.str "*")) aN)))
      (setEe 1 (calE F_times (eC (puE (fld ["Reader"] "space" (sv 0))) (eC (puE (var 1)) (eC (eMet "Reader" "factor" (F_Reader_factor_g t) 0 aN) eN))))))
      (rtS 0 (puE (var 1)))))
theorem sc_Reader_product : FnScope N_Reader_product ["self"] (defScope (inClass (topS 33) 9)) := ⟨rfl, rfl, rfl, by decide +kernel, rfl, by decide +kernel, by decide +kernel⟩
theorem okg_Reader_product (Z : ZF fa fn exl K mg) {t : Fn} {L : Nat} (ht : MethS P w K mg base (3 + L) "Reader" "terms" t) : MethS P w K mg base (3 + L + 3) "Reader" "product" (F_Reader_product_g t) := by
  obtain ⟨fd, F⟩ := Z.says.def_ 38 (d := d38)
  have sc := sc_Reader_product
  exact ⟨_, _, fd, ["self"], by
    letI : RT := RT.st
    exact fnS_sound F sc rfl rfl (by decide) fun cdv A outer s H hr => (ss_cons (s_setEe sc.nd (ee_met0 (i := 0) (okg_Reader_factor Z ht) (hr.mono (by omega))))
      (ss_cons (s_whileE PassesOwn.never (et_tes (ee_met (ok_Reader_accept Z) (hr.mono (by omega)) (sa_cons se_str sa_nil)))
      (ss_one (s_setEe sc.nd (ee_calE (ok_times Z) (hr.mono (by omega)) (ea_cons (ee_pure (se_fldS 0 (Z.at 27 28 29))) (ea_cons (ee_pure (se_var 1)) (ea_cons (ee_met0 (i := 0) (okg_Reader_factor Z ht) (hr.mono (by omega))) ea_nil)))))))
      (ss_one (s_rtS (i := 0) (ee_pure (se_var 1)))))), (Z.glo 27), (He.cls_ok (Z.says.fact 28)), (He.meth_ok (Z.says.fact 76)), (F.bindsN fun _ _ _ _ _ _ us hl => match us, hl with | [_], _ => rfl)⟩
def N_scaled : List Str := ["space", "one", "number", "power", "each"]
def F_scaled : Fn := fnc 3 5
    (rt (cal F_from_numbers (aC (var 0) (aC (dcE true (iTp (var 1)) (.t [(.n 3), (.n 4)]) (var 3) (op2 mulD (var 4) (var 2)) [3, 4]) aN))))
theorem sc_scaled : FnScope N_scaled ["space", "one", "number"] (defScope (topS 24)) := ⟨rfl, rfl, rfl, by decide +kernel, rfl, by decide +kernel, by decide +kernel⟩
theorem ok_scaled (Z : ZF fa fn exl K mg) : CallOk P w K mg base 2 "scaled" F_scaled := by
  obtain ⟨fd, F⟩ := Z.says.def_ 39 (d := d39)
  have sc := sc_scaled
  exact ⟨_, fd, _, fn_sound F sc fun cdv A outer s H hr =>
    (ss_one (s_ret (se_cal (ok_from_numbers Z) (hr.mono (by decide)) (sa_cons (se_var 0) (sa_cons (SN.se (sn_dc (hu_of hr) rfl sc.nd (si_tup (se_var 1)) (blkOk_by (own := [("power", 3), ("each", 4)]) (N := N_scaled) (sc := defScope (topS 24)) (by decide +kernel)) (fun _ _ _ _ _ => (g_t rfl (gs_cons (g_n 3 sc.nd) (gs_cons (g_n 4 sc.nd) gs_nil)))) (fun _ _ _ _ _ => (se_var 3)) (fun _ _ _ _ _ => (se_op2 op_mulD (se_var 4) (se_var 2))))) sa_nil))))), (Z.glo 77), F.kp, (F.bindsN fun _ _ _ _ _ _ us hl => match us, hl with | [_, _, _], _ => rfl)⟩
def N_plus : List Str := ["space", "one", "other", "numbers", "power", "number"]
def F_plus : Fn := fnc 3 6
    (sq (newE 3 (op1 dictT (var 1)))
      (sq (forE (iTp (var 2)) (.t [(.n 4), (.n 5)])
      (stK 3 (var 4) (imm (op2 addD (op3 getK2 (ovar 3) (var 4) (cst (.int 0))) (var 5)))))
      (rt (cal F_from_numbers (aC (var 0) (aC (ovar 3) aN))))))
theorem sc_plus : FnScope N_plus ["space", "one", "other"] (defScope (topS 23)) := ⟨rfl, rfl, rfl, by decide +kernel, rfl, by decide +kernel, by decide +kernel⟩
theorem ok_plus (Z : ZF fa fn exl K mg) : CallOk P w K mg base 2 "plus" F_plus := by
  obtain ⟨fd, F⟩ := Z.says.def_ 40 (d := d40)
  have sc := sc_plus
  exact ⟨_, fd, _, fn_sound F sc fun cdv A outer s H hr =>
    (ss_cons (s_new sc.nd (sn_dictT rfl hr.units (Z.free 36) (se_var 1)))
      (ss_cons (s_for PassesOwn.never rfl (si_tup (se_var 2)) (g_t rfl (gs_cons (g_n 4 sc.nd) (gs_cons (g_n 5 sc.nd) gs_nil)))
      (ss_one (s_stK (hu_of hr) (se_var 4) (se_imm (se_op2 op_addD (se_getK2 (hu_of hr) (se_ovar 3) (se_var 4) se_int) (se_var 5))))))
      (ss_one (s_ret (se_cal (ok_from_numbers Z) (hr.mono (by decide)) (sa_cons (se_var 0) (sa_cons (se_ovar 3) sa_nil))))))), (Z.glo 78), F.kp, (F.bindsN fun _ _ _ _ _ _ us hl => match us, hl with | [_, _, _], _ => rfl)⟩
def N_minus : List Str := ["space", "one", "other"]
def F_minus : Fn := fnc 3 3
    (rt (cal F_plus (aC (var 0) (aC (var 1) (aC (cal F_scaled (aC (var 0) (aC (var 2) (aC (op2 subD (fld ["Space"] "prime" (var 0)) (cst (.int 1))) aN)))) aN)))))
theorem sc_minus : FnScope N_minus ["space", "one", "other"] (defScope (topS 25)) := ⟨rfl, rfl, rfl, by decide +kernel, rfl, by decide +kernel, by decide +kernel⟩
theorem ok_minus (Z : ZF fa fn exl K mg) : CallOk P w K mg base 3 "minus" F_minus := by
  obtain ⟨fd, F⟩ := Z.says.def_ 41 (d := d41)
  have sc := sc_minus
  exact ⟨_, fd, _, fn_sound F sc fun cdv A outer s H hr =>
    (ss_one (s_ret (se_cal (ok_plus Z) (hr.mono (by decide)) (sa_cons (se_var 0) (sa_cons (se_var 1) (sa_cons (se_cal (ok_scaled Z) (hr.mono (by decide)) (sa_cons (se_var 0) (sa_cons (se_var 2) (sa_cons (se_op2 op_subD (se_fld (at_cons (Z.at 7 8 9) at_nil) (se_var 0)) se_int) sa_nil)))) sa_nil)))))), (Z.glo 79), F.kp, (F.bindsN fun _ _ _ _ _ _ us hl => match us, hl with | [_, _, _], _ => rfl)⟩
def N_Reader_terms : List Str := ["self", "found"]
def F_Reader_terms_rec : Nat → Fn
  | 0 => fncS 0 1 2 (fun _ => none)
  | fu + 1 => fncS 0 1 2
    (sq (ifE (tesE (eMet "Reader" "accept" F_Reader_accept 0 (aC (cst (.str "-")) aN)))
      (setEe 1 (calE F_scaled (eC (puE (fld ["Reader"] "space" (sv 0))) (eC (eMet "Reader" "product" (F_Reader_product_g (F_Reader_terms_rec fu)) 0 aN) (eC (puE (op2 subD (fld ["Space"] "prime" (fld ["Reader"] "space" (sv 0))) (cst (.int 1)))) eN)))))
      (setEe 1 (eMet "Reader" "product" (F_Reader_product_g (F_Reader_terms_rec fu)) 0 aN)))
      (whE (tes (cst (.bl true)))
      (ifE (tesE (eMet "Reader" "accept" F_Reader_accept 0 (aC (cst (.str "+")) aN)))
      (setEe 1 (calE F_plus (eC (puE (fld ["Reader"] "space" (sv 0))) (eC (puE (var 1)) (eC (eMet "Reader" "product" (F_Reader_product_g (F_Reader_terms_rec fu)) 0 aN) eN)))))
      (ifE (tesE (eMet "Reader" "accept" F_Reader_accept 0 (aC (cst (.str "-")) aN)))
      (setEe 1 (calE F_minus (eC (puE (fld ["Reader"] "space" (sv 0))) (eC (puE (var 1)) (eC (eMet "Reader" "product" (F_Reader_product_g (F_Reader_terms_rec fu)) 0 aN) eN)))))
      (rtS 0 (puE (var 1)))))))
def F_Reader_terms : Fn := F_Reader_terms_rec 4
theorem sc_Reader_terms : FnScope N_Reader_terms ["self"] (defScope (inClass (topS 33) 10)) := ⟨rfl, rfl, rfl, by decide +kernel, rfl, by decide +kernel, by decide +kernel⟩
theorem okr_Reader_terms (fu : Nat) (Z : ZF fa fn exl K mg) : MethS P w K mg base (3 + (4 * fu + 1)) "Reader" "terms" (F_Reader_terms_rec fu) := by
  obtain ⟨fd, F⟩ := Z.says.def_ 42 (d := d42)
  have sc := sc_Reader_terms
  induction fu with
  | zero => exact ⟨_, _, fd, ["self"], by
    letI : RT := RT.st
    exact fnS_sound (k := 3 + 4 * 0) F sc rfl rfl (by decide) fun cdv A outer s H hr => ss_nope, (Z.glo 27), (He.cls_ok (Z.says.fact 28)), (He.meth_ok (Z.says.fact 80)), (F.bindsN fun _ _ _ _ _ _ us hl => match us, hl with | [_], _ => rfl)⟩
  | succ fu ih => exact ⟨_, _, fd, ["self"], by
    letI : RT := RT.st
    exact fnS_sound (k := 3 + 4 * (fu + 1)) F sc rfl rfl (by decide) fun cdv A outer s H hr => (ss_cons (s_ifE (et_tes (ee_met (ok_Reader_accept Z) (hr.mono (by omega)) (sa_cons se_str sa_nil)))
      (ss_one (s_setEe sc.nd (ee_calE (ok_scaled Z) (hr.mono (by omega)) (ea_cons (ee_pure (se_fldS 0 (Z.at 27 28 29))) (ea_cons (ee_met0 (i := 0) (okg_Reader_product Z ih) (hr.mono (by omega))) (ea_cons (ee_pure (se_op2 op_subD (se_fld (at_cons (Z.at 7 8 9) at_nil) (se_fldS 0 (Z.at 27 28 29))) se_int)) ea_nil))))))
      (ss_one (s_setEe sc.nd (ee_met0 (i := 0) (okg_Reader_product Z ih) (hr.mono (by omega))))))
      (ss_one (s_while PassesOwn.never (st_tes se_bl)
      (ss_one (s_ifE (et_tes (ee_met (ok_Reader_accept Z) (hr.mono (by omega)) (sa_cons se_str sa_nil)))
      (ss_one (s_setEe sc.nd (ee_calE (ok_plus Z) (hr.mono (by omega)) (ea_cons (ee_pure (se_fldS 0 (Z.at 27 28 29))) (ea_cons (ee_pure (se_var 1)) (ea_cons (ee_met0 (i := 0) (okg_Reader_product Z ih) (hr.mono (by omega))) ea_nil))))))
      (ss_one (s_ifE (et_tes (ee_met (ok_Reader_accept Z) (hr.mono (by omega)) (sa_cons se_str sa_nil)))
      (ss_one (s_setEe sc.nd (ee_calE (ok_minus Z) (hr.mono (by omega)) (ea_cons (ee_pure (se_fldS 0 (Z.at 27 28 29))) (ea_cons (ee_pure (se_var 1)) (ea_cons (ee_met0 (i := 0) (okg_Reader_product Z ih) (hr.mono (by omega))) ea_nil))))))
      (ss_one (s_rtS (i := 0) (ee_pure (se_var 1))))))))))), (Z.glo 27), (He.cls_ok (Z.says.fact 28)), (He.meth_ok (Z.says.fact 80)), (F.bindsN fun _ _ _ _ _ _ us hl => match us, hl with | [_], _ => rfl)⟩
theorem ok_Reader_terms (Z : ZF fa fn exl K mg) : MethS P w K mg base 20 "Reader" "terms" F_Reader_terms := (okr_Reader_terms Z (fu := 4))
def N_Reader_whole : List Str := ["self", "found"]
def F_Reader_whole : Fn := fncS 0 1 2
    (sq (setEe 1 (eMet "Reader" "terms" F_Reader_terms 0 aN))
      (sq (ifE (cmpE (neg eqD) (eMet "Reader" "next_char" F_Reader_next_char 0 aN) (puE (cst (.str ""))))
      stuck
      skip)
      (rtS 0 (puE (var 1)))))
theorem sc_Reader_whole : FnScope N_Reader_whole ["self"] (defScope (inClass (topS 33) 11)) := ⟨rfl, rfl, rfl, by decide +kernel, rfl, by decide +kernel, by decide +kernel⟩
theorem ok_Reader_whole (Z : ZF fa fn exl K mg) : MethS P w K mg base 21 "Reader" "whole" F_Reader_whole := by
  obtain ⟨fd, F⟩ := Z.says.def_ 43 (d := d43)
  have sc := sc_Reader_whole
  exact ⟨_, _, fd, ["self"], by
    letI : RT := RT.st
    exact fnS_sound F sc rfl rfl (by decide) fun cdv A outer s H hr => (ss_cons (s_setEe sc.nd (ee_met0 (i := 0) (ok_Reader_terms Z) (hr.mono (by decide))))
      (ss_cons (s_ifE (et_cmp (op_neDD hr.units) (ee_met0 (i := 0) (ok_Reader_next_char Z) (hr.mono (by decide))) (ee_pure se_str))
      (ss_one s_stuck)
      ss_nil)
      (ss_one (s_rtS (i := 0) (ee_pure (se_var 1)))))), (Z.glo 27), (He.cls_ok (Z.says.fact 28)), (He.meth_ok (Z.says.fact 81)), (F.bindsN fun _ _ _ _ _ _ us hl => match us, hl with | [_], _ => rfl)⟩
def N_read_equation : List Str := ["space", "text", "line", "middle", "left"]
def F_read_equation : Fn := fnc 3 5
    (sq (ifS (cmp (neg inS) (cst (.str "=")) (var 1))
      (rt (nMet "Reader" "whole" F_Reader_whole (cal (isIns "Reader" F_Reader___init__) (aC (var 0) (aC (var 1) (aC (var 2) (aC (cst (.int 0)) (aC (cal (f1 lenD) (aC (var 1) aN)) aN))))))))
      skip)
      (sq (setE 3 (op2 inxD (var 1) (cst (.str "="))))
      (sq (setE 4 (nMet "Reader" "whole" F_Reader_whole (cal (isIns "Reader" F_Reader___init__) (aC (var 0) (aC (var 1) (aC (var 2) (aC (cst (.int 0)) (aC (var 3) aN))))))))
      (rt (cal F_minus (aC (var 0) (aC (var 4) (aC (nMet "Reader" "whole" F_Reader_whole (cal (isIns "Reader" F_Reader___init__) (aC (var 0) (aC (var 1) (aC (var 2) (aC (op2 addD (var 3) (cst (.int 1))) (aC (cal (f1 lenD) (aC (var 1) aN)) aN))))))) aN))))))))
theorem sc_read_equation : FnScope N_read_equation ["space", "text", "line"] (defScope (topS 37)) := ⟨rfl, rfl, rfl, by decide +kernel, rfl, by decide +kernel, by decide +kernel⟩
theorem ok_read_equation (Z : ZF fa fn exl K mg) : CallOk P w K mg base 22 "read_equation" F_read_equation := by
  obtain ⟨fd, F⟩ := Z.says.def_ 44 (d := d44)
  have sc := sc_read_equation
  exact ⟨_, fd, _, fn_sound F sc fun cdv A outer s H hr =>
    (ss_cons (s_if (st_cmp op_ninSD se_str (se_var 1))
      (ss_one (s_ret (se_nMet0 (ok_Reader_whole Z) (hr.mono (by decide)) (sn_mak (ok_Reader___init__ Z) (hr.mono (by decide)) (sa_cons (se_var 0) (sa_cons (se_var 1) (sa_cons (se_var 2) (sa_cons se_int (sa_cons (se_bltI imm_lenD cr_lenD (Z.free 12) boot_len (sa_cons (se_var 1) sa_nil)) sa_nil)))))))))
      ss_nil)
      (ss_cons (s_set sc.nd (se_sindex (se_var 1) se_str))
      (ss_cons (s_set sc.nd (se_nMet0 (ok_Reader_whole Z) (hr.mono (by decide)) (sn_mak (ok_Reader___init__ Z) (hr.mono (by decide)) (sa_cons (se_var 0) (sa_cons (se_var 1) (sa_cons (se_var 2) (sa_cons se_int (sa_cons (se_var 3) sa_nil))))))))
      (ss_one (s_ret (se_cal (ok_minus Z) (hr.mono (by decide)) (sa_cons (se_var 0) (sa_cons (se_var 4) (sa_cons (se_nMet0 (ok_Reader_whole Z) (hr.mono (by decide)) (sn_mak (ok_Reader___init__ Z) (hr.mono (by decide)) (sa_cons (se_var 0) (sa_cons (se_var 1) (sa_cons (se_var 2) (sa_cons (se_op2 op_addD (se_var 3) se_int) (sa_cons (se_bltI imm_lenD cr_lenD (Z.free 12) boot_len (sa_cons (se_var 1) sa_nil)) sa_nil))))))) sa_nil))))))))), (Z.glo 82), F.kp, (F.bindsN fun _ _ _ _ _ _ us hl => match us, hl with | [_, _, _], _ => rfl)⟩
def N_System___init__ : List Str := ["self", "space", "equations"]
def F_System___init__ : Fn := ini "System" 3 3
    (sq (setF 0 "System" "space" (var 1))
      (setF 0 "System" "equations" (op1 listD (var 2))))
theorem sc_System___init__ : FnScope N_System___init__ ["self", "space", "equations"] (defScope (inClass (topS 30) 0)) := ⟨rfl, rfl, rfl, by decide +kernel, rfl, by decide +kernel, by decide +kernel⟩
theorem ok_System___init__ (Z : ZF fa fn exl K mg) : MakeOk P w K mg base 1 "System" F_System___init__ := by
  obtain ⟨fd, F⟩ := Z.says.def_ 45 (d := d45)
  have sc := sc_System___init__
  exact ⟨_, _, fd, _, ini_sound F sc fun cdv A outer s H hr =>
    (ss_cons (s_setF (Z.at 4 5 6) (se_var 1))
      (ss_one (s_setF (Z.at 4 5 11) (SN.se (sn_list (Z.free 22) (se_var 2)))))), (Z.glo 4), (He.mkr_ok (Z.says.fact 83)), (F.bindsN fun _ _ _ _ _ _ us hl => match us, hl with | [_, _, _], _ => rfl)⟩
def N_read_system : List Str := ["text", "lines", "space", "number", "row"]
def F_read_system : Fn := fnc 1 5
    (sq (setE 1 (op2 splD (var 0) (cst (.str "\n"))))
      (sq (setE 2 (cal F_read_space (aC (var 1) aN)))
      (rt (cal (isIns "System" F_System___init__) (aC (var 2) (aC (lcE (iEnum (aC (slE slcL (var 1) (prt (cst (.int 2))) prN) aN)) (.t [(.n 3), (.n 4)]) yes (cal F_read_equation (aC (var 2) (aC (var 4) (aC (op2 addD (var 3) (cst (.int 3))) aN)))) [3, 4]) aN))))))
theorem sc_read_system : FnScope N_read_system ["text"] (defScope (topS 38)) := ⟨rfl, rfl, rfl, by decide +kernel, rfl, by decide +kernel, by decide +kernel⟩
theorem ok_read_system (Z : ZF fa fn exl K mg) : CallOk P w K mg base 23 "read_system" F_read_system := by
  obtain ⟨fd, F⟩ := Z.says.def_ 46 (d := d46)
  have sc := sc_read_system
  exact ⟨_, fd, _, fn_sound F sc fun cdv A outer s H hr =>
    (ss_cons (s_set sc.nd (SN.se (sn_split (se_var 0) se_str)))
      (ss_cons (s_set sc.nd (se_cal (ok_read_space Z) (hr.mono (by decide)) (sa_cons (se_var 1) sa_nil)))
      (ss_one (s_ret (se_mak (ok_System___init__ Z) (hr.mono (by decide)) (sa_cons (se_var 2) (sa_cons (SN.se (sn_lc rfl sc.nd (si_enum (Z.free 15) (sa_cons (SN.se (sn_slL (se_var 1) (so_some se_int) so_none)) sa_nil)) (blkOk_by (own := [("number", 3), ("row", 4)]) (N := N_read_system) (sc := defScope (topS 38)) (by decide +kernel)) (fun _ _ _ _ _ => (g_t rfl (gs_cons (g_n 3 sc.nd) (gs_cons (g_n 4 sc.nd) gs_nil)))) (fun _ _ _ _ _ => (se_cal (ok_read_equation Z) (hr.mono (by decide)) (sa_cons (se_var 2) (sa_cons (se_var 4) (sa_cons (se_op2 op_addD (se_var 3) se_int) sa_nil))))))) sa_nil))))))), (Z.glo 84), F.kp, (F.bindsN fun _ _ _ _ _ _ us hl => match us, hl with | [_], _ => rfl)⟩
def N__law_written : List Str := ["_law_names_here", "_law_one", "_law_terms", "_law_power", "_law_number", "_law_parts", "_law_k"]
def F__law_written : Fn := fnc 2 7
    (sq (newE 2 (lstE aN))
      (sq (forE (iTp (var 1)) (.t [(.n 3), (.n 4)])
      (sq (setE 5 (lcE (iRng (one1 (aC (cal (f1 lenD) (aC (var 0) aN)) aN))) (.n 6) (cmp (flip ltD) (op2 getD (var 3) (var 6)) (cst (.int 0))) (op2 addD (op2 getD (var 0) (var 6)) (op2 getD (lstE (aC (cst (.str "")) (aC (cst (.str "")) (aC (cst (.str "^2")) (aC (cst (.str "^3")) (aC (cst (.str "^4")) (aC (cst (.str "^5")) (aC (cst (.str "^6")) aN)))))))) (op2 getD (var 3) (var 6)))) [6]))
      (sq (ifS (orT (cmp (neg eqD) (var 4) (cst (.int 1))) (cmp eqD (cal (f1 lenD) (aC (var 5) aN)) (cst (.int 0))))
      (setE 5 (op2 addL (lstE (aC (op1 strI (var 4)) aN)) (var 5)))
      skip)
      (app 2 (op2 joinD (cst (.str "*")) (var 5))))))
      (sq (ifS (cmp eqD (cal (f1 lenD) (aC (ovar 2) aN)) (cst (.int 0)))
      (rt (cst (.str "0")))
      skip)
      (rt (op2 joinD (cst (.str " + ")) (ovar 2))))))
theorem sc__law_written : FnScope N__law_written ["_law_names_here", "_law_one"] (defScope (topS 61)) := ⟨rfl, rfl, rfl, by decide +kernel, rfl, by decide +kernel, by decide +kernel⟩
theorem ok__law_written (Z : ZF fa fn exl K mg) : CallOk P w K mg base 1 "_law_written" F__law_written := by
  obtain ⟨fd, F⟩ := Z.says.def_ 47 (d := d47)
  have sc := sc__law_written
  exact ⟨_, fd, _, fn_sound F sc fun cdv A outer s H hr =>
    (ss_cons (s_new sc.nd (sn_lst sa_nil))
      (ss_cons (s_for PassesOwn.never rfl (si_tup (se_var 1)) (g_t rfl (gs_cons (g_n 3 sc.nd) (gs_cons (g_n 4 sc.nd) gs_nil)))
      (ss_cons (s_setLcI rfl sc.nd (sw_true rfl rfl rfl (by decide +kernel)) (si_rng1 (Z.free 2) (sa_cons (se_bltI imm_lenD cr_lenD (Z.free 12) boot_len (sa_cons (se_var 0) sa_nil)) sa_nil)) (blkOk_by (own := [("_law_k", 6)]) (N := N__law_written) (sc := defScope (topS 61)) (by decide +kernel)) (fun _ _ _ _ _ => (g_n 6 sc.nd)) (fun _ _ _ _ _ => (st_cmp op_gtD (se_get (se_var 3) (se_var 6)) se_int)) (fun _ _ _ _ _ => (se_op2 op_addD (se_get (se_var 0) (se_var 6)) (se_get (SN.se (sn_lst (sa_cons se_str (sa_cons se_str (sa_cons se_str (sa_cons se_str (sa_cons se_str (sa_cons se_str (sa_cons se_str sa_nil))))))))) (se_get (se_var 3) (se_var 6))))))
      (ss_cons (s_if (SWd.st (sw_or (st_cmp (op_neDD hr.units) (se_var 4) se_int) (sw_or1 (st_cmp (op_eqDD hr.units) (se_bltI imm_lenD cr_lenD (Z.free 12) boot_len (sa_cons (se_var 5) sa_nil)) se_int))))
      (ss_one (s_set sc.nd (SN.se (sn_cat (SN.se (sn_lst (sa_cons (se_strI (Z.free 0) (se_var 4)) sa_nil))) (se_var 5)))))
      ss_nil)
      (ss_one (s_app (se_join se_str (se_var 5)))))))
      (ss_cons (s_if (st_cmp (op_eqDD hr.units) (se_bltI imm_lenD cr_lenD (Z.free 12) boot_len (sa_cons (se_ovar 2) sa_nil)) se_int)
      (ss_one (s_ret se_str))
      ss_nil)
      (ss_one (s_ret (se_join se_str (se_ovar 2))))))), (Z.glo 85), F.kp, (F.bindsN fun _ _ _ _ _ _ us hl => match us, hl with | [_, _], _ => rfl)⟩
def N_write_term : List Str := ["space", "power", "number", "parts", "name", "exponent"]
def F_write_term : Fn := fnc 3 6
    (sq (newE 3 (lstE aN))
      (sq (ifS (orT (cmp (neg eqD) (var 2) (cst (.int 1))) (notT (tes (cal (f1 anyT) (aC (var 1) aN)))))
      (app 3 (op1 strI (var 2)))
      skip)
      (sq (forE (iZn (aC (fld ["Space"] "names" (var 0)) (aC (var 1) aN))) (.t [(.n 4), (.n 5)])
      (ifS (cmp eqD (var 5) (cst (.int 1)))
      (app 3 (var 4))
      (ifS (cmp (flip ltD) (var 5) (cst (.int 1)))
      (app 3 (op2 addD (op2 addD (var 4) (cst (.str "^"))) (op1 strI (var 5))))
      skip)))
      (rt (op2 joinD (cst (.str "*")) (ovar 3))))))
theorem sc_write_term : FnScope N_write_term ["space", "power", "number"] (defScope (topS 34)) := ⟨rfl, rfl, rfl, by decide +kernel, rfl, by decide +kernel, by decide +kernel⟩
theorem ok_write_term (Z : ZF fa fn exl K mg) : CallOk P w K mg base 1 "write_term" F_write_term := by
  obtain ⟨fd, F⟩ := Z.says.def_ 48 (d := d48)
  have sc := sc_write_term
  exact ⟨_, fd, _, fn_sound F sc fun cdv A outer s H hr =>
    (ss_cons (s_new sc.nd (sn_lst sa_nil))
      (ss_cons (s_if (SWd.st (sw_or (st_cmp (op_neDD hr.units) (se_var 2) se_int) (sw_or1 (st_not (st_tes (se_bltI imm_anyT (cr_anyT rfl) (Z.free 37) boot_any (sa_cons (se_var 1) sa_nil)))))))
      (ss_one (s_app (se_strI (Z.free 0) (se_var 2))))
      ss_nil)
      (ss_cons (s_for PassesOwn.never rfl (si_zipN (Z.free 35) (sa_cons (se_fld (at_cons (Z.at 7 8 10) at_nil) (se_var 0)) (sa_cons (se_var 1) sa_nil))) (g_t rfl (gs_cons (g_n 4 sc.nd) (gs_cons (g_n 5 sc.nd) gs_nil)))
      (ss_one (s_if (st_cmp (op_eqDD hr.units) (se_var 5) se_int)
      (ss_one (s_app (se_var 4)))
      (ss_one (s_if (st_cmp op_gtD (se_var 5) se_int)
      (ss_one (s_app (se_op2 op_addD (se_op2 op_addD (se_var 4) se_str) (se_strI (Z.free 0) (se_var 5)))))
      ss_nil)))))
      (ss_one (s_ret (se_join se_str (se_ovar 3))))))), (Z.glo 86), F.kp, (F.bindsN fun _ _ _ _ _ _ us hl => match us, hl with | [_, _, _], _ => rfl)⟩
def N_write_polynomial : List Str := ["space", "one", "power", "number"]
def F_write_polynomial : Fn := fnc 2 4
    (sq (ifS (cmp eqD (var 1) (tupE aN))
      (rt (cst (.str "0")))
      skip)
      (rt (op2 joinD (cst (.str " + ")) (lcE (iTp (var 1)) (.t [(.n 2), (.n 3)]) yes (cal F_write_term (aC (var 0) (aC (var 2) (aC (var 3) aN)))) [2, 3]))))
theorem sc_write_polynomial : FnScope N_write_polynomial ["space", "one"] (defScope (topS 35)) := ⟨rfl, rfl, rfl, by decide +kernel, rfl, by decide +kernel, by decide +kernel⟩
theorem ok_write_polynomial (Z : ZF fa fn exl K mg) : CallOk P w K mg base 2 "write_polynomial" F_write_polynomial := by
  obtain ⟨fd, F⟩ := Z.says.def_ 49 (d := d49)
  have sc := sc_write_polynomial
  exact ⟨_, fd, _, fn_sound F sc fun cdv A outer s H hr =>
    (ss_cons (s_if (st_cmp (op_eqDD hr.units) (se_var 1) (se_tup sa_nil))
      (ss_one (s_ret se_str))
      ss_nil)
      (ss_one (s_ret (se_join se_str (SN.se (sn_lc rfl sc.nd (si_tup (se_var 1)) (blkOk_by (own := [("power", 2), ("number", 3)]) (N := N_write_polynomial) (sc := defScope (topS 35)) (by decide +kernel)) (fun _ _ _ _ _ => (g_t rfl (gs_cons (g_n 2 sc.nd) (gs_cons (g_n 3 sc.nd) gs_nil)))) (fun _ _ _ _ _ => (se_cal (ok_write_term Z) (hr.mono (by decide)) (sa_cons (se_var 0) (sa_cons (se_var 2) (sa_cons (se_var 3) sa_nil))))))))))), (Z.glo 87), F.kp, (F.bindsN fun _ _ _ _ _ _ us hl => match us, hl with | [_, _], _ => rfl)⟩
def N_write_system : List Str := ["system", "space", "lines", "one"]
def F_write_system : Fn := fnc 1 4
    (sq (setE 1 (fld ["System"] "space" (var 0)))
      (sq (setE 2 (lstE (aC (op2 addD (cst (.str "numbers ")) (op1 strI (fld ["Space"] "prime" (var 1)))) (aC (op2 addD (cst (.str "unknowns ")) (op2 joinD (cst (.str " ")) (fld ["Space"] "names" (var 1)))) aN))))
      (rt (op2 joinD (cst (.str "\n")) (op2 addL (var 2) (lcE (iLst (fld ["System"] "equations" (var 0))) (.n 3) yes (cal F_write_polynomial (aC (var 1) (aC (var 3) aN))) [3]))))))
theorem sc_write_system : FnScope N_write_system ["system"] (defScope (topS 39)) := ⟨rfl, rfl, rfl, by decide +kernel, rfl, by decide +kernel, by decide +kernel⟩
theorem ok_write_system (Z : ZF fa fn exl K mg) : CallOk P w K mg base 3 "write_system" F_write_system := by
  obtain ⟨fd, F⟩ := Z.says.def_ 50 (d := d50)
  have sc := sc_write_system
  exact ⟨_, fd, _, fn_sound F sc fun cdv A outer s H hr =>
    (ss_cons (s_set sc.nd (se_fld (at_cons (Z.at 4 5 6) at_nil) (se_var 0)))
      (ss_cons (s_set sc.nd (SN.se (sn_lst (sa_cons (se_op2 op_addD se_str (se_strI (Z.free 0) (se_fld (at_cons (Z.at 7 8 9) at_nil) (se_var 1)))) (sa_cons (se_op2 op_addD se_str (se_join se_str (se_fld (at_cons (Z.at 7 8 10) at_nil) (se_var 1)))) sa_nil)))))
      (ss_one (s_ret (se_join se_str (SN.se (sn_cat (se_var 2) (SN.se (sn_lc rfl sc.nd (si_list (se_fld (at_cons (Z.at 4 5 11) at_nil) (se_var 0))) (blkOk_by (own := [("one", 3)]) (N := N_write_system) (sc := defScope (topS 39)) (by decide +kernel)) (fun _ _ _ _ _ => (g_n 3 sc.nd)) (fun _ _ _ _ _ => (se_cal (ok_write_polynomial Z) (hr.mono (by decide)) (sa_cons (se_var 1) (sa_cons (se_var 3) sa_nil))))))))))))), (Z.glo 88), F.kp, (F.bindsN fun _ _ _ _ _ _ us hl => match us, hl with | [_], _ => rfl)⟩
def N_law : List Str := ["_law_script", "_law_names_here", "_law_lines", "_law_due", "_law_k", "_law_system", "_law_text", "_law_prime", "_law_count", "_law_one", "_law_more", "_law_other"]
def F_law : Fn := fnc 1 12
    (sq (asg (.t [(.n 7), (.n 8)]) (cal F__law_shape (aC (cal F__law_cell (aC (var 0) (aC (cst (.int 0)) aN))) aN)))
      (sq (setE 1 (cal F__law_names (aC (cal F__law_cell (aC (var 0) (aC (cst (.int 1)) aN))) (aC (var 8) aN))))
      (sq (newE 2 (lstE (aC (op2 addD (cst (.str "numbers ")) (op1 strI (var 7))) (aC (op2 addD (cst (.str "unknowns ")) (op2 joinD (cst (.str " ")) (var 1))) aN))))
      (sq (newE 3 (lstE aN))
      (sq (forE (iRng (one1 (aC (op2 modD (cal (f1 intD) (aC (cal F__law_cell (aC (var 0) (aC (cst (.int 2)) aN))) aN)) (cst (.int 5))) aN))) (.n 4)
      (sq (asg (.t [(.n 6), (.n 9)]) (cal F__law_expression (aC (var 7) (aC (var 1) (aC (op2 addD (cal F__law_cell (aC (var 0) (aC (op2 addD (cst (.int 3)) (op2 mulD (cst (.int 2)) (var 4))) aN))) (var 4)) aN)))))
      (sq (ifS (cmp (flip ltD) (op2 modD (cal (f1 intD) (aC (op2 addD (op2 divD (cal F__law_cell (aC (var 0) (aC (cst (.int 2)) aN))) (cst (.int 5))) (var 4)) aN)) (cst (.int 3))) (cst (.int 0)))
      (sq (asg (.t [(.n 10), (.n 11)]) (cal F__law_expression (aC (var 7) (aC (var 1) (aC (op2 addD (cal F__law_cell (aC (var 0) (aC (op2 addD (cst (.int 4)) (op2 mulD (cst (.int 2)) (var 4))) aN))) (op2 mulD (cst (.int 3)) (var 4))) aN)))))
      (sq (setE 6 (op2 addD (op2 addD (var 6) (cst (.str "="))) (var 10)))
      (setE 9 (cal F__law_minus (aC (var 7) (aC (var 9) (aC (var 11) aN)))))))
      skip)
      (sq (app 2 (var 6))
      (app 3 (var 9))))))
      (frz 2 (sq (setE 5 (cal F_read_system (aC (op2 joinD (cst (.str "\n")) (var 2)) aN)))
      (sq (ifS (orT (notT (tes (op1 (isC "System") (var 5)))) (orT (cmp (neg eqD) (fld ["Space"] "prime" (fld ["System"] "space" (var 5))) (var 7)) (cmp (neg eqD) (fld ["Space"] "names" (fld ["System"] "space" (var 5))) (var 1))))
      (rt (cst (.bl false)))
      skip)
      (sq (setE 6 (op2 joinD (cst (.str "\n")) (op2 addL (slE slcL (var 2) prN (prt (cst (.int 2)))) (lcE (iLst (ovar 3)) (.n 9) yes (cal F__law_written (aC (var 1) (aC (var 9) aN))) [9]))))
      (sq (ifS (orT (cmp (neg eqD) (fld ["System"] "equations" (var 5)) (ovar 3)) (cmp (neg eqD) (cal F_write_system (aC (var 5) aN)) (var 6)))
      (rt (cst (.bl false)))
      skip)
      (rt (boo (cmp eqD (fld ["System"] "equations" (cal F_read_system (aC (var 6) aN))) (ovar 3))))))))))))))
theorem sc_law : FnScope N_law ["_law_script"] (defScope (topS 62)) := ⟨rfl, rfl, rfl, by decide +kernel, rfl, by decide +kernel, by decide +kernel⟩
theorem ok_law (Z : ZF fa fn exl K mg) : ∃ fd : FuncData, FunD K d51.name d51.qual d51.params d51.body d51.scope [] [] (He.fAd K d51.at_) fd ∧ ∀ base : Heap, FnOk P w K mg base CX0 24 (He.fAd K d51.at_) fd ["_law_script"] (spD mg F_law) := by
  obtain ⟨fd, F⟩ := Z.says.def_ 51 (d := d51)
  have sc := sc_law
  exact ⟨fd, F, fun base => fn_sound F sc fun cdv A outer s H hr =>
    (ss_cons (s_asg (se_cal (ok__law_shape Z) (hr.mono (by decide)) (sa_cons (se_cal (ok__law_cell Z) (hr.mono (by decide)) (sa_cons (se_var 0) (sa_cons se_int sa_nil))) sa_nil)) (g_t rfl (gs_cons (g_n 7 sc.nd) (gs_cons (g_n 8 sc.nd) gs_nil))))
      (ss_cons (s_set sc.nd (se_cal (ok__law_names Z) (hr.mono (by decide)) (sa_cons (se_cal (ok__law_cell Z) (hr.mono (by decide)) (sa_cons (se_var 0) (sa_cons se_int sa_nil))) (sa_cons (se_var 8) sa_nil))))
      (ss_cons (s_new sc.nd (sn_lst (sa_cons (se_op2 op_addD se_str (se_strI (Z.free 0) (se_var 7))) (sa_cons (se_op2 op_addD se_str (se_join se_str (se_var 1))) sa_nil))))
      (ss_cons (s_new sc.nd (sn_lst sa_nil))
      (ss_cons (s_for PassesOwn.never rfl (si_rng1 (Z.free 2) (sa_cons (se_op2 op_modD (se_btyI imm_intD cr_intD (Z.free 1) PyProof.Rows.boot_int (sa_cons (se_cal (ok__law_cell Z) (hr.mono (by decide)) (sa_cons (se_var 0) (sa_cons se_int sa_nil))) sa_nil)) se_int) sa_nil)) (g_n 4 sc.nd)
      (ss_cons (s_asg (se_cal (ok__law_expression Z) (hr.mono (by decide)) (sa_cons (se_var 7) (sa_cons (se_var 1) (sa_cons (se_op2 op_addD (se_cal (ok__law_cell Z) (hr.mono (by decide)) (sa_cons (se_var 0) (sa_cons (se_op2 op_addD se_int (se_op2 op_mulD se_int (se_var 4))) sa_nil))) (se_var 4)) sa_nil)))) (g_t rfl (gs_cons (g_n 6 sc.nd) (gs_cons (g_n 9 sc.nd) gs_nil))))
      (ss_cons (s_if (st_cmp op_gtD (se_op2 op_modD (se_btyI imm_intD cr_intD (Z.free 1) PyProof.Rows.boot_int (sa_cons (se_op2 op_addD (se_op2 op_divD (se_cal (ok__law_cell Z) (hr.mono (by decide)) (sa_cons (se_var 0) (sa_cons se_int sa_nil))) se_int) (se_var 4)) sa_nil)) se_int) se_int)
      (ss_cons (s_asg (se_cal (ok__law_expression Z) (hr.mono (by decide)) (sa_cons (se_var 7) (sa_cons (se_var 1) (sa_cons (se_op2 op_addD (se_cal (ok__law_cell Z) (hr.mono (by decide)) (sa_cons (se_var 0) (sa_cons (se_op2 op_addD se_int (se_op2 op_mulD se_int (se_var 4))) sa_nil))) (se_op2 op_mulD se_int (se_var 4))) sa_nil)))) (g_t rfl (gs_cons (g_n 10 sc.nd) (gs_cons (g_n 11 sc.nd) gs_nil))))
      (ss_cons (s_set sc.nd (se_op2 op_addD (se_op2 op_addD (se_var 6) se_str) (se_var 10)))
      (ss_one (s_set sc.nd (se_cal (ok__law_minus Z) (hr.mono (by decide)) (sa_cons (se_var 7) (sa_cons (se_var 9) (sa_cons (se_var 11) sa_nil))))))))
      ss_nil)
      (ss_cons (s_app (se_var 6))
      (ss_one (s_app (se_var 9)))))))
      (ss_frz 2 (ss_cons (s_set sc.nd (se_cal (ok_read_system Z) (hr.mono (by decide)) (sa_cons (se_join se_str (se_var 2)) sa_nil)))
      (ss_cons (s_if (SWd.st (sw_or (st_not (st_tes (se_isC (Z.free 3) (Z.glo 4) (Z.clsK 5) (Z.exf 0) (se_var 5)))) (sw_or (st_cmp (op_neDD hr.units) (se_fld (at_cons (Z.at 7 8 9) at_nil) (se_fld (at_cons (Z.at 4 5 6) at_nil) (se_var 5))) (se_var 7)) (sw_or1 (st_cmp (op_neDD hr.units) (se_fld (at_cons (Z.at 7 8 10) at_nil) (se_fld (at_cons (Z.at 4 5 6) at_nil) (se_var 5))) (se_var 1))))))
      (ss_one (s_ret se_bl))
      ss_nil)
      (ss_cons (s_set sc.nd (se_join se_str (SN.se (sn_cat (SN.se (sn_slL (se_var 2) so_none (so_some se_int))) (SN.se (sn_lcO 3 rfl sc.nd (blkOk_by (own := [("_law_one", 9)]) (N := N_law) (sc := defScope (topS 62)) (by decide +kernel)) (fun _ _ _ _ _ => (g_n 9 sc.nd)) (fun _ _ _ _ _ => (se_cal (ok__law_written Z) (hr.mono (by decide)) (sa_cons (se_var 1) (sa_cons (se_var 9) sa_nil))))))))))
      (ss_cons (s_if (SWd.st (sw_or (st_cmp (op_neDD hr.units) (se_fld (at_cons (Z.at 4 5 11) at_nil) (se_var 5)) (se_ovar 3)) (sw_or1 (st_cmp (op_neDD hr.units) (se_cal (ok_write_system Z) (hr.mono (by decide)) (sa_cons (se_var 5) sa_nil)) (se_var 6)))))
      (ss_one (s_ret se_bl))
      ss_nil)
      (ss_one (s_ret (se_cmp (op_eqDD hr.units) (se_fld (at_cons (Z.at 4 5 11) at_nil) (se_cal (ok_read_system Z) (hr.mono (by decide)) (sa_cons (se_var 6) sa_nil))) (se_ovar 3))))))))))))))⟩
end

end PV

namespace PV
open PySem
def sqK (b : Sx) : DRes → Option DRes
  | .nx e => b e
  | .ret d => some (.ret d)
  | .bk e => some (.bk e)
  | .ct e => some (.ct e)
def ifK (a b : Sx) (e : DEnv) : Bool → Option DRes
  | true => a e
  | false => b e
def ifX (a b : Ex) (e : DEnv) : Bool → Option D
  | true => a e
  | false => b e
def ifT (a b : Tx) (e : DEnv) : Bool → Option Bool
  | true => a e
  | false => b e
def fncK : DRes → Option D
  | .ret d => some d
  | .nx _ => some .non
  | _ => none
def iniK (c : Str) : DRes → Option D
  | .nx e => match (e[0]? : Option DSlot) with
    | some (DSlot.slf (D.ins c' fs xs)) => if c' = c then some (.ins c' fs xs) else none
    | _ => none
  | _ => none
def ctK : DRes → Option DRes
  | .ct e => some (.nx e)
  | r => some r
def lcK (ys : List D) : Option D := some (.lst ys)
def lstK : D → Option (List D)
  | .lst xs => some xs
  | _ => none
def tupK : D → Option (List D)
  | .tup xs => some xs
  | .ftup xs => some xs
  | _ => none
def blK : D → Option Bool
  | .bl b => some b
  | _ => none
def ovK : DSlot → Option D
  | .own d => some d
  | _ => none
def vaK : DSlot → Option D
  | .val d => some d
  | _ => none
theorem sqK_nx {b : Sx} {e} : sqK b (.nx e) = b e := rfl
theorem sqK_ret {b : Sx} {d} : sqK b (.ret d) = some (.ret d) := rfl
theorem sqK_bk {b : Sx} {e} : sqK b (.bk e) = some (.bk e) := rfl
theorem sqK_ct {b : Sx} {e} : sqK b (.ct e) = some (.ct e) := rfl
theorem ifK_t {a b : Sx} {e} : ifK a b e true = a e := rfl
theorem ifK_f {a b : Sx} {e} : ifK a b e false = b e := rfl
theorem ifX_t {a b : Ex} {e} : ifX a b e true = a e := rfl
theorem ifX_f {a b : Ex} {e} : ifX a b e false = b e := rfl
theorem ifT_t {a b : Tx} {e} : ifT a b e true = a e := rfl
theorem ifT_f {a b : Tx} {e} : ifT a b e false = b e := rfl
theorem fncK_ret {d} : fncK (.ret d) = some d := rfl
theorem fncK_nx {e} : fncK (.nx e) = some .non := rfl
theorem ctK_nx {e} : ctK (.nx e) = some (.nx e) := rfl
theorem ctK_ct {e} : ctK (.ct e) = some (.nx e) := rfl
theorem ctK_ret {d} : ctK (.ret d) = some (.ret d) := rfl
theorem lcK_e {ys} : lcK ys = some (.lst ys) := rfl
theorem lstK_e {ys} : lstK (.lst ys) = some ys := rfl
theorem tupK_e {ys} : tupK (.tup ys) = some ys := rfl
theorem tupK_f {ys} : tupK (.ftup ys) = some ys := rfl
theorem blK_e {b} : blK (.bl b) = some b := rfl
theorem ovK_e {d} : ovK (.own d) = some d := rfl
theorem vaK_e {d} : vaK (.val d) = some d := rfl
theorem sq_e {a b : Sx} {e} : sq a b e = (a e).bind (sqK b) := by
  unfold sq; congr; funext r; cases r <;> rfl
theorem skip_e {e} : skip e = some (.nx e) := rfl
theorem setE_e {a : Ex} {e} : setE i a e = (a e).bind fun d => some (.nx (e.set i (.val d))) := rfl
theorem newE_e {a : Ex} {e} : newE i a e = (a e).bind fun d => some (.nx (e.set i (.own d))) := rfl
theorem rt_e {a : Ex} {e} : rt a e = (a e).bind fun d => some (.ret d) := rfl
theorem brk_e {e} : brk e = some (.bk e) := rfl
theorem cnt_e {e} : cnt e = some (.ct e) := rfl
theorem ifS_e {t : Tx} {a b : Sx} {e} : ifS t a b e = (t e).bind (ifK a b e) := by
  unfold ifS; congr; funext c; cases c <;> rfl
theorem ife_e {t : Tx} {a b : Ex} {e} : ife t a b e = (t e).bind (ifX a b e) := by
  unfold ife; congr; funext c; cases c <;> rfl
theorem var_e {e : DEnv} : var i e = (e[i]?).bind vaK := by
  unfold var; cases e[i]? with
  | none => rfl
  | some s => cases s <;> rfl
theorem ovar_e {e : DEnv} : ovar i e = (e[i]?).bind ovK := by
  unfold ovar; cases e[i]? with
  | none => rfl
  | some s => cases s <;> rfl
theorem cst_e {e} : cst d e = some d := rfl
theorem imm_e {a : Ex} {e} : imm a e = (a e).bind fun d => if d.imm then some d else none := rfl
theorem op1_e {a : Ex} {e} : op1 f a e = (a e).bind f := rfl
theorem op2_e {a b : Ex} {e} : op2 f a b e = (a e).bind fun x => (b e).bind (f x) := rfl
theorem op3_e {a b c : Ex} {e} : op3 f a b c e = (a e).bind fun x => (b e).bind fun y => (c e).bind (f x y) := rfl
theorem aN_e {e} : aN e = some [] := rfl
theorem aC_e {a : Ex} {r : Ax} {e} : aC a r e = (a e).bind fun x => (r e).bind fun xs => some (x :: xs) := rfl
theorem tupE_e {a : Ax} {e} : tupE a e = (a e).bind fun xs => if xs.length ≤ szL then some (.tup xs) else none := rfl
theorem lstE_e {a : Ax} {e} : lstE a e = (a e).bind fun xs => if xs.length ≤ szL then some (.lst xs) else none := rfl
theorem cal_e {f : Fn} {a : Ax} {e} : cal f a e = (a e).bind f := rfl
theorem f1_e {f : D → Option D} {d} : f1 f [d] = f d := rfl
theorem cmp_e {f : D → D → Option Bool} {a b : Ex} {e} : cmp f a b e = (a e).bind fun x => (b e).bind (f x) := rfl
theorem flip_e {f : D → D → Option Bool} {x y} : flip f x y = f y x := rfl
theorem neg_e {f : D → D → Option Bool} {x y} : neg f x y = (f x y).map not := rfl
theorem chn_e {f g : D → D → Option Bool} {a b c : Ex} {e} : chn f g a b c e = (a e).bind fun x => (b e).bind fun y => (f x y).bind (ifT (fun e => (c e).bind fun z => g y z) (fun _ => some false) e) := by
  unfold chn; congr; funext x; congr; funext y; congr; funext r; cases r <;> rfl
theorem boo_e {t : Tx} {e} : boo t e = (t e).map D.bl := rfl
theorem tes_e {a : Ex} {e} : tes a e = (a e).bind blK := by
  unfold tes; congr
def ff : Tx := fun _ => some false
def tt : Tx := fun _ => some true
theorem ff_e {e} : ff e = some false := rfl
theorem tt_e {e} : tt e = some true := rfl
theorem andT_e {a b : Tx} {e} : andT a b e = (a e).bind (ifT b ff e) := by
  unfold andT; congr; funext c; cases c <;> rfl
theorem orT_e {a b : Tx} {e} : orT a b e = (a e).bind (ifT tt b e) := by
  unfold orT; congr; funext c; cases c <;> rfl
theorem notT_e {a : Tx} {e} : notT a e = (a e).map not := rfl
def fX : Ex := fun _ => some (.bl false)
def tX : Ex := fun _ => some (.bl true)
theorem fX_e {e} : fX e = some (.bl false) := rfl
theorem tX_e {e} : tX e = some (.bl true) := rfl
theorem andV_e {a b : Ex} {e} : andV a b e = ((a e).bind blK).bind (ifX b fX e) := by
  unfold andV
  cases a e with
  | none => rfl
  | some d => cases d with
    | bl c => cases c <;> rfl
    | _ => rfl
theorem orV_e {a b : Ex} {e} : orV a b e = ((a e).bind blK).bind (ifX tX b e) := by
  unfold orV
  cases a e with
  | none => rfl
  | some d => cases d with
    | bl c => cases c <;> rfl
    | _ => rfl
theorem notV_e {a : Ex} {e} : notV a e = ((a e).bind blK).map fun c => .bl (!c) := by
  unfold notV
  cases a e with
  | none => rfl
  | some d => cases d <;> rfl
theorem isN_e {a : Ex} {e} : isN a e = (a e).map isNonD := rfl
theorem yes_e {e} : yes e = some true := rfl
theorem asg_e {a : Ex} {e} : asg g a e = (a e).bind fun d => (gD g d e).bind fun e' => some (.nx e') := rfl
theorem gD_n {e} : gD (.n i) d e = some (e.set i (.val d)) := by unfold gD; rfl
theorem gD_t {e} : gD (.t l) (.tup xs) e = gDs l xs e := by unfold gD; rfl
theorem gDs_n {e} : gDs [] [] e = some e := by unfold gDs; rfl
theorem gDs_c {e} : gDs (g :: gs) (d :: ds) e = (gD g d e).bind (gDs gs ds) := by
  conv => lhs; unfold gDs
theorem frz_e {b : Sx} {e : DEnv} : frz j b e = ((e[j]?).bind ovK).bind fun d => b (e.set j (.val d)) := by
  unfold frz; cases e[j]? with
  | none => rfl
  | some s => cases s <;> rfl
theorem mov_e {e : DEnv} : mov i j e = ((e[j]?).bind ovK).bind fun d => some (.nx ((e.set j .no).set i (.val d))) := by
  unfold mov; cases e[j]? with
  | none => rfl
  | some s => cases s <;> rfl
theorem movO_e {e : DEnv} : movO i j e = ((e[j]?).bind ovK).bind fun d => some (.nx ((e.set j .no).set i (.own d))) := by
  unfold movO; cases e[j]? with
  | none => rfl
  | some s => cases s <;> rfl
theorem forE_e {it : Ax} {b : Sx} {e} : forE it g b e = (it e).bind fun xs => loop (gD g) b xs e := rfl
theorem iLst_e {a : Ex} {e} : iLst a e = (a e).bind lstK := by
  unfold iLst; congr
theorem iTp_e {a : Ex} {e} : iTp a e = (a e).bind tupK := by
  unfold iTp; congr
theorem iRng_e {a : Ax} {e} : iRng a e = (a e).bind rngL := rfl
theorem one1_c {a : Ex} {e} : one1 (aC a aN) e = (a e).bind fun x => some [x] := by
  simp only [one1, aC_e, aN_e, Option.bind_some]; cases a e <;> rfl
theorem two2_c {a b : Ex} {e} : two2 (aC a (aC b aN)) e = (a e).bind fun x => (b e).bind fun y => some [x, y] := by
  simp only [two2, aC_e, aN_e, Option.bind_some]
  cases a e with
  | none => rfl
  | some x => cases b e <;> rfl
theorem iZp_e {a : Ax} {e} : iZp a e = (a e).bind zipD := rfl
theorem lcE_e {it : Ax} {t : Tx} {a : Ex} {e} : lcE it g t a ws e = (it e).bind fun xs => if xs.length ≤ szL ∧ noOwn e ws = true then (lcRun (gD g) t a (wip e ws) xs).bind lcK else none := rfl
theorem lc2E_e {it it1 : Ax} {a : Ex} {e} : lc2E it g it1 g1 a ws ws1 e = (it e).bind fun xs => if noOwn e ws = true then (lc2Run (gD g) (gD g1) it1 a ws1 (wip e ws) xs).bind fun ys => if ys.length ≤ szL then some (.lst ys) else none else none := rfl
theorem wip_n {e} : wip e [] = e := rfl
theorem wip_c {e} : wip e (v :: vs) = (wip e vs).set v .no := rfl
def noO : Option DSlot → Bool
  | some DSlot.no => true
  | some (DSlot.val _) => true
  | _ => false
theorem noOwn_n {e} : noOwn e [] = true := rfl
theorem noOwn_c {e : DEnv} : noOwn e (v :: vs) = (noO e[v]? && noOwn e vs) := by
  simp only [noOwn, List.all_cons]; rfl
theorem noO_no : noO (some .no) = true := rfl
theorem noO_val : noO (some (.val d)) = true := rfl
theorem fnc_e {b : Sx} {ds} : fnc m n b ds = if ds.length = m then (b (ds.map DSlot.val ++ List.replicate (n - m) DSlot.no)).bind fncK else none := by
  unfold fnc; congr
theorem ini_e {b : Sx} {ds} : ini c m n b ds = if ds.length + 1 = m then (b (DSlot.slf (.ins c [] []) :: (ds.map DSlot.val ++ List.replicate (n - m) DSlot.no))).bind (iniK c) else none := by
  unfold ini; rfl
theorem met_e {o : Ex} {a : Ax} {e} : met l m o a e = (o e).bind fun d => (a e).bind fun ds => metD l m ds d := rfl
theorem fld_e {a : Ex} {e} : fld cs f a e = (a e).bind (attr cs f) := rfl
theorem slE_e {a : Ex} {e} : slE f a lo hi e = (a e).bind fun d => (lo e).bind fun l => (hi e).bind fun h => f l h d := rfl
def prK : D → Option (Option Int)
  | .int i => some (some i)
  | _ => none
theorem prK_e : prK (.int i) = some (some i) := rfl
theorem prt_e {a : Ex} {e} : prt a e = (a e).bind prK := by unfold prt; congr
theorem prN_e {e} : prN e = some none := rfl
theorem dic1_e {k v : Ex} {e} : dic1 k v e = (k e).bind fun x => (v e).bind fun y => if keyD true x then some (.dic true [x] [y]) else none := rfl
def appK (i : Nat) (d : D) (e : DEnv) : Option DSlot → Option DRes
  | some (DSlot.own (D.lst xs)) => if xs.length < szL then some (.nx (e.set i (.own (.lst (xs ++ [d]))))) else none
  | _ => none
theorem appK_e : appK i d e (some (.own (.lst xs))) = if xs.length < szL then some (.nx (e.set i (.own (.lst (xs ++ [d]))))) else none := rfl
theorem app_e {a : Ex} {e : DEnv} : app i a e = (a e).bind fun d => appK i d e e[i]? := by
  unfold app; congr
def extK (i : Nat) (d : D) (e : DEnv) : Option DSlot → Option DRes
  | some (DSlot.own (D.lst xs)) => match d with
    | .lst ys => if xs.length + ys.length ≤ szL then some (.nx (e.set i (.own (.lst (xs ++ ys))))) else none
    | _ => none
  | _ => none
theorem extK_e : extK i (.lst ys) e (some (.own (.lst xs))) = if xs.length + ys.length ≤ szL then some (.nx (e.set i (.own (.lst (xs ++ ys))))) else none := rfl
theorem ext_e {a : Ex} {e : DEnv} : ext i a e = (a e).bind fun d => extK i d e e[i]? := by
  unfold ext extK; congr; funext d
  cases e[i]? with
  | none => rfl
  | some s => cases s with
    | own x => cases x <;> cases d <;> rfl
    | _ => rfl
def stKK (i : Nat) (d kd : D) (e : DEnv) : Option DSlot → Option DRes
  | some (DSlot.own (D.dic t ks vs)) => if keyD t kd ∧ ks.length < szL ∧ ks.length = vs.length then some (.nx (e.set i (.own (.dic t (dput ks vs kd d).1 (dput ks vs kd d).2)))) else none
  | _ => none
theorem stK_e {a k : Ex} {e : DEnv} : stK i k a e = (a e).bind fun d => (k e).bind fun kd => stKK i d kd e e[i]? := by
  unfold stK; congr
theorem stKK_e : stKK i d kd e (some (.own (.dic t ks vs))) = if keyD t kd ∧ ks.length < szL ∧ ks.length = vs.length then some (.nx (e.set i (.own (.dic t (dput ks vs kd d).1 (dput ks vs kd d).2)))) else none := rfl
def drpK (e : DEnv) : D → Option DRes
  | .lst xs => if xs.length < szL then some (.nx e) else none
  | _ => none
theorem drpA_e {a b : Ex} {e} : drpA a b e = (a e).bind fun d => (b e).bind fun _ => drpK e d := by
  unfold drpA; congr
theorem drpK_e : drpK e (.lst xs) = if xs.length < szL then some (.nx e) else none := rfl
theorem szL_le {n : Nat} (h : n ≤ 16777216) : (n ≤ szL) = True := eq_true h
theorem szL_lt {n : Nat} (h : n < 16777216) : (n < szL) = True := eq_true h
theorem addD_int : addD (.int a) (.int b) = some (.int (a + b)) := rfl
theorem addD_tup (h : a.length + b.length ≤ 16777216) : addD (.tup a) (.tup b) = some (.tup (a ++ b)) := by
  simp only [addD]; exact if_pos h
def catF (a b : List D) : D := if a.isEmpty then .ftup b else if b.isEmpty then .ftup a else .tup (a ++ b)
theorem tupK_cat : tupK (catF a b) = some (a ++ b) := by
  unfold catF
  split
  · rename_i h; rw [List.isEmpty_iff.mp h]; rfl
  · split
    · rename_i h; rw [List.isEmpty_iff.mp h, List.append_nil]; rfl
    · rfl
theorem addD_ff (h : a.length + b.length ≤ 16777216) : addD (.ftup a) (.ftup b) = some (catF a b) := by
  simp only [addD]; exact if_pos h
theorem addD_lst (h : a.length + b.length ≤ 16777216) : addD (.lst a) (.lst b) = some (.lst (a ++ b)) := by
  simp only [addD]; exact if_pos h
theorem subD_int : subD (.int a) (.int b) = some (.int (a - b)) := rfl
theorem b64_sm {a : Int} (h : -18446744073709551616 < a ∧ a < 18446744073709551616) : b64 a = true := b64_of h
theorem mulD_l (h : -18446744073709551616 < a ∧ a < 18446744073709551616) : mulD (.int a) (.int b) = some (.int (a * b)) := by
  simp only [mulD, b64_sm h, Bool.true_or, if_true]
theorem mulD_r (h : -18446744073709551616 < b ∧ b < 18446744073709551616) : mulD (.int a) (.int b) = some (.int (a * b)) := by
  simp only [mulD, b64_sm h, Bool.or_true, if_true]
theorem modD_int (h : 0 < b) : modD (.int a) (.int b) = some (.int (a % b)) := by
  simp only [modD]; exact if_pos h
theorem divD_int (h : 0 < b ∧ b < 1073741824) : divD (.int a) (.int b) = some (.int (a / b)) := by
  simp only [divD, h, decide_true, Bool.and_true, if_true]
theorem powD_18 : powD (.int 10) (.int 18) = some (.int 1000000000000000000) := by
  unfold powD; rfl
theorem intD_int : intD (.int a) = some (.int a) := rfl
theorem intD_bl : intD (.bl a) = some (.int (if a then 1 else 0)) := rfl
theorem ltD_int : ltD (.int a) (.int b) = some (decide (a < b)) := rfl
theorem leD_int : leD (.int a) (.int b) = some (decide (a ≤ b)) := rfl
theorem eqD_int : eqD (.int a) (.int b) = some (decide (a = b)) := by
  simp only [eqD, D.plain, D.eqv, Bool.and_self, if_true]; congr
theorem eqD_bl : eqD (.bl a) (.bl b) = some (a == b) := by
  simp only [eqD, D.plain, D.eqv, Bool.and_self, if_true]
theorem lenD_lst : lenD (.lst xs) = some (.int xs.length) := rfl
theorem lenD_tup : lenD (.tup xs) = some (.int xs.length) := rfl
theorem lenD_scr : lenD (.scr xs) = some (.int xs.length) := rfl
theorem ftupD_lst : ftupD (.lst xs) = some (.ftup xs) := rfl
theorem lenD_f : lenD (.ftup xs) = some (.int xs.length) := rfl
theorem ftupE_e {a : Ax} {e} : ftupE a e = (a e).bind fun xs => if xs.length ≤ szL then some (.ftup xs) else none := rfl
theorem tupD_lst : tupD (.lst xs) = some (.tup xs) := rfl
theorem listD_lst : listD (.lst xs) = some (.lst xs) := rfl
theorem listD_tup : listD (.tup xs) = some (.lst xs) := rfl
theorem revL_lst : revL (.lst xs) = some (.lst xs.reverse) := rfl
theorem isBool_bl : isBool (.bl b) = some (.bl true) := rfl
theorem getD_l {xs : List D} {i : Int} (h : 0 ≤ i) : getD (.lst xs) (.int i) = xs[i.toNat]? := by
  simp only [getD, PV.ixN, if_pos h]
  split
  · rfl
  · rw [List.getElem?_eq_none (by omega)]; rfl
theorem getD_t {xs : List D} {i : Int} (h : 0 ≤ i) : getD (.tup xs) (.int i) = xs[i.toNat]? := by
  simp only [getD, PV.ixN, if_pos h]
  split
  · rfl
  · rw [List.getElem?_eq_none (by omega)]; rfl
theorem getD_f {xs : List D} {i : Int} (h : 0 ≤ i) : getD (.ftup xs) (.int i) = xs[i.toNat]? := by
  simp only [getD, PV.ixN, if_pos h]
  split
  · rfl
  · rw [List.getElem?_eq_none (by omega)]; rfl
theorem getD_s {xs : List Int} {i : Int} (h : 0 ≤ i) : getD (.scr xs) (.int i) = (xs[i.toNat]?).map D.int := by
  simp only [getD, PV.ixN, if_pos h]
  split
  · rfl
  · rw [List.getElem?_eq_none (by omega)]; rfl
theorem rngL_n {n : Nat} (h : n < 4611686018427387904) : rngL [.int (n : Int)] = some ((List.range n).map fun (k : Nat) => D.int (k : Int)) := by
  have e1 : (-(2 ^ 62) : Int) ≤ (n : Int) := by omega
  have e2 : (n : Int) < 2 ^ 62 := by omega
  simp only [rngL, e1, e2, and_self, decide_true, if_true, Int.toNat_natCast]
theorem rngL_2 {m n : Int} (h : -4611686018427387904 ≤ m ∧ m < 4611686018427387904 ∧ -4611686018427387904 ≤ n ∧ n < 4611686018427387904) : rngL [.int m, .int n] = some ((List.range (n - m).toNat).map fun (k : Nat) => D.int (m + (k : Int))) := by
  simp only [rngL]
  rw [if_pos (by simpa using h)]
theorem rngL_i {n : Int} (h : -4611686018427387904 ≤ n ∧ n < 4611686018427387904) : rngL [.int n] = some ((List.range n.toNat).map fun (k : Nat) => D.int (k : Int)) := by
  have e1 : (-(2 ^ 62) : Int) ≤ n := by omega
  have e2 : n < 2 ^ 62 := by omega
  simp only [rngL, e1, e2, and_self, decide_true, if_true]
theorem sumL_ints {l : List Int} : sumL (.lst (l.map D.int)) = some (.int l.sum) := by
  have : ∀ l : List Int, intsOf (l.map D.int) = some l := fun l => by
    induction l with
    | nil => rfl
    | cons a l ih => simp [intsOf, ih]
  simp [sumL, this]
theorem intsOf_map : ∀ l : List Int, intsOf (l.map D.int) = some l := fun l => by
    induction l with
    | nil => rfl
    | cons a l ih => simp [intsOf, ih]
theorem sumT_tup {l : List Int} : sumT (.tup (l.map D.int)) = some (.int l.sum) := by
  simp [sumT, intsOf_map]
theorem sumT_lst {l : List Int} : sumT (.lst (l.map D.int)) = some (.int l.sum) := by
  simp [sumT, intsOf_map]
theorem blsOf_map : ∀ l : List Bool, blsOf (l.map D.bl) = some l := fun l => by
    induction l with
    | nil => rfl
    | cons a l ih => simp [blsOf, ih]
theorem allL_bls {l : List Bool} : allL (.lst (l.map D.bl)) = some (.bl (l.all id)) := by
  simp [allL, blsOf_map]
theorem anyL_bls {l : List Bool} : anyL (.lst (l.map D.bl)) = some (.bl (l.any id)) := by
  simp [anyL, blsOf_map]
theorem set_0 {s t : DSlot} {e : List DSlot} : (s :: e).set 0 t = t :: e := rfl
theorem set_s {s t : DSlot} {e : List DSlot} {n : Nat} : (s :: e).set (n + 1) t = s :: e.set n t := rfl
theorem max2_int : max2 [.int a, .int b] = some (.int (if b > a then b else a)) := rfl
theorem isBD_bl : isBD (.bl a) (.bl b) = some (a == b) := rfl
theorem revT_tup : revT (.tup xs) = some (.tup xs.reverse) := rfl
theorem iEnum_e {a : Ax} {e} : iEnum a e = (a e).bind enumD := rfl
theorem iItm_e {a : Ex} {e} : iItm a e = (a e).bind itemsD := rfl
theorem iZm_e {a : Ax} {e} : iZm a e = (a e).bind zipM := rfl
theorem addI_int : addI (.int a) (.int b) = some (.int (a + b)) := rfl
theorem subI_int : subI (.int a) (.int b) = some (.int (a - b)) := rfl
theorem isLst_l : isLst (.lst xs) = some (.bl true) := rfl
theorem isC_i : isC c (.ins c fs xs) = some (.bl true) := by simp [isC]
theorem iSq_e {a : Ex} {e} : iSq a e = (a e).bind seqK := rfl
theorem seqK_t : seqK (.tup xs) = some xs := rfl
theorem seqK_l : seqK (.lst xs) = some xs := rfl
theorem dcE_e {it : Ax} {kx vx : Ex} {e} : dcE t it g kx vx ws e = (it e).bind fun xs => if xs.length ≤ szL ∧ noOwn e ws = true then (dcRun t (gD g) kx vx (wip e ws) xs [] []).bind fun r => some (.dic t r.1 r.2) else none := rfl
theorem lcRun_m {α β : Type} {g : Gx} {a : Ex} {e0 : DEnv} {enc : α → D} {enc' : β → D} (f : α → β) : ∀ {xs : List α}, (∀ x ∈ xs, (g (enc x) e0).bind a = some (enc' (f x))) → lcRun g yes a e0 (xs.map enc) = some ((xs.map f).map enc')
  | [], _ => rfl
  | x :: xs, h => by
    have h1 := h x List.mem_cons_self
    have h2 := lcRun_m f (xs := xs) fun y hy => h y (List.mem_cons_of_mem _ hy)
    rw [List.map_cons, List.map_cons, List.map_cons]
    unfold lcRun
    cases hg : g (enc x) e0 with
    | none => simp [hg] at h1
    | some e1 =>
      rw [hg, Option.bind_some] at h1
      simp [yes, h1, h2]
def lcT (a : Ex) (e : DEnv) : Bool → Option (Option D)
  | true => (a e).map some
  | false => some none
theorem lcT_t {a : Ex} {e} : lcT a e true = (a e).map some := rfl
theorem lcT_f {a : Ex} {e} : lcT a e false = some none := rfl
theorem lcRun_f {α β : Type} {g : Gx} {t : Tx} {a : Ex} {e0 : DEnv} {enc : α → D} {enc' : β → D} (p : α → Bool) (f : α → β) : ∀ {xs : List α}, (∀ x ∈ xs, (g (enc x) e0).bind (fun e => (t e).bind (lcT a e)) = some (if p x then some (enc' (f x)) else none)) → lcRun g t a e0 (xs.map enc) = some (((xs.filter p).map f).map enc')
  | [], _ => rfl
  | x :: xs, h => by
    have h1 := h x List.mem_cons_self
    have h2 := lcRun_f p f (xs := xs) fun y hy => h y (List.mem_cons_of_mem _ hy)
    rw [List.map_cons, List.filter_cons]
    unfold lcRun
    cases hg : g (enc x) e0 with
    | none => simp [hg] at h1
    | some e1 =>
      rw [hg, Option.bind_some] at h1
      rw [Option.bind_some]
      cases ht : t e1 with
      | none => simp [ht] at h1
      | some c =>
        rw [ht, Option.bind_some] at h1
        rw [Option.bind_some]
        cases c with
        | false => cases hp : p x <;> simp [lcT, hp] at h1 ⊢; simpa using h2
        | true =>
          cases hp : p x <;> simp [lcT, hp] at h1 ⊢
          simp [h1, h2]
end PV

namespace PV
open PySem
theorem loop_ix {α : Type} {g : Gx} {b : Sx} {enc : α → D} (P : Nat → DEnv → Prop) : ∀ (xs : List α) (e : DEnv) (n : Nat), P n e → (∀ i x e, xs[i]? = some x → P (n + i) e → ∃ e2, ((g (enc x) e).bind b).bind ctK = some (.nx e2) ∧ P (n + i + 1) e2) → ∃ e', loop g b (xs.map enc) e = some (.nx e') ∧ P (n + xs.length) e'
  | [], e, n, h, _ => ⟨e, rfl, h⟩
  | x :: xs, e, n, h, st => by
    obtain ⟨e2, h1, h3⟩ := st 0 x e rfl h
    obtain ⟨e', h4, h5⟩ := loop_ix P xs e2 (n + 1) h3 fun i y e hy hp => by
      have := st (i + 1) y e (by simpa using hy) (by rw [show n + (i + 1) = n + 1 + i by omega]; exact hp)
      rw [show n + (i + 1) + 1 = n + 1 + i + 1 by omega] at this
      exact this
    refine ⟨e', ?_, by rw [List.length_cons, show n + (xs.length + 1) = n + 1 + xs.length by omega]; exact h5⟩
    rw [List.map_cons, ← h4]
    conv => lhs; unfold loop
    cases hg : g (enc x) e with
    | none => simp [hg] at h1
    | some e1 =>
      rw [hg, Option.bind_some] at h1
      rw [Option.bind_some]
      cases hb : b e1 with
      | none => simp [hb] at h1
      | some r =>
        rw [hb, Option.bind_some] at h1
        rw [Option.bind_some]
        cases r <;> simp [ctK] at h1 <;> simp [h1]
theorem loop_o {α : Type} {g : Gx} {b : Sx} {enc : α → D} {xs : List α} {e0 : DEnv} {o : Option DRes} (hl : loop g b (xs.map enc) e0 = o) (P : Nat → DEnv → Prop) (hi : P 0 e0) (h : ∀ i x e, xs[i]? = some x → P i e → ∃ e2, ((g (enc x) e).bind b).bind ctK = some (.nx e2) ∧ P (i + 1) e2) :
    ∃ e, o = some (.nx e) ∧ P xs.length e := by
  obtain ⟨e', h1, h2⟩ := loop_ix (g := g) (b := b) (enc := enc) P xs e0 0 hi fun i x e h1 h2 => by
    rw [Nat.zero_add] at h2 ⊢; exact h i x e h1 h2
  exact ⟨e', hl.symm.trans h1, by rw [Nat.zero_add] at h2; exact h2⟩
theorem loop_p {α : Type} {g : Gx} {b : Sx} {enc : α → D} {xs : List α} {e0 : DEnv} {o : Option DRes} (hl : loop g b (xs.map enc) e0 = o) (P : List α → DEnv → Prop) (hi : P [] e0)
    (h : ∀ pre x e, x ∈ xs → pre.length < xs.length → P pre e → ∃ e2, ((g (enc x) e).bind b).bind ctK = some (.nx e2) ∧ P (pre ++ [x]) e2) :
    ∃ e, o = some (.nx e) ∧ P xs e := by
  obtain ⟨e, h1, h2⟩ := loop_o hl (fun i e => P (xs.take i) e) (by simpa using hi) (by
    intro i x e hx hp
    obtain ⟨hx1, hx2⟩ := List.getElem?_eq_some_iff.mp hx
    have h3 := h (xs.take i) x e (by rw [← hx2]; exact List.getElem_mem hx1) (by rw [List.length_take]; omega) hp
    rw [List.take_succ, hx]
    exact h3)
  exact ⟨e, h1, by simpa using h2⟩
theorem stp {X : Option DRes} {P : DEnv → Prop} {e2 : DEnv} (h1 : X = some (.nx e2)) (h2 : P e2) : ∃ e2, X = some (.nx e2) ∧ P e2 := ⟨e2, h1, h2⟩
abbrev nD (n : Nat) : D := .int (n : Int)
abbrev iD (l : List Int) : D := .tup (l.map .int)
abbrev Poly := List (List Int × Int)
abbrev rowD (r : List Int × Int) : D := .tup [iD r.1, .int r.2]
abbrev pD (f : Poly) : D := .ftup (f.map rowD)
abbrev pT (f : Poly) : D := .tup (f.map rowD)
abbrev dcD (m : Poly) : D := .dic true (m.map fun r => iD r.1) (m.map fun r => .int r.2)
theorem msI {L : List Int} {x : Int} : L.map D.int ++ [D.int x] = (L ++ [x]).map D.int := by simp
theorem msT {L : List (List Int)} {x : List Int} : L.map iD ++ [iD x] = (L ++ [x]).map iD := by simp
theorem maT {L M : List (List Int)} : L.map iD ++ M.map iD = (L ++ M).map iD := by simp
theorem maI {L M : List Int} : L.map D.int ++ M.map D.int = (L ++ M).map D.int := by simp
theorem msP {L : List Poly} {x : Poly} : L.map pD ++ [pD x] = (L ++ [x]).map pD := by simp
theorem maR {L M : Poly} : L.map rowD ++ M.map rowD = (L ++ M).map rowD := by simp
theorem eqvs_ints : ∀ a b : List Int, D.eqvs (a.map D.int) (b.map D.int) = decide (a = b)
  | [], [] => rfl
  | [], _ :: _ => rfl
  | _ :: _, [] => rfl
  | x :: xs, y :: ys => by
    simp only [List.map_cons, D.eqvs, D.eqv, eqvs_ints xs ys]
    by_cases h : x = y <;> by_cases h2 : xs = ys <;> simp [h, h2]
theorem eqv_iD (a b : List Int) : D.eqv (iD a) (iD b) = decide (a = b) := by
  simp only [D.eqv]; exact eqvs_ints a b
theorem plains_all {n : Nat} : ∀ {ds : List D}, (∀ d ∈ ds, d.plain n = true) → D.plains n ds = true
  | [], _ => by simp [D.plains]
  | d :: ds, h => by
    simp only [D.plains, Bool.and_eq_true]
    exact ⟨h d List.mem_cons_self, plains_all fun x hx => h x (List.mem_cons_of_mem _ hx)⟩
theorem plain_iD (l : List Int) : (iD l).plain (n + 1) = true := by
  simp only [D.plain]
  exact plains_all fun d hd => by
    obtain ⟨i, _, rfl⟩ := List.mem_map.mp hd
    simp [D.plain]
theorem plain_pD (f : Poly) : (pD f).plain (n + 3) = true := by
  simp only [D.plain]
  refine plains_all fun d hd => ?_
  obtain ⟨i, _, rfl⟩ := List.mem_map.mp hd
  simp only [D.plain, D.plains, Bool.and_true]
  exact plain_iD i.1 (n := n)
mutual
theorem eqv_refl : ∀ {n : Nat} {d : D}, d.plain n = true → D.eqv d d = true
  | _, .non, _ => rfl
  | _, .bl b, _ => by simp [D.eqv]
  | _, .int _, _ => by simp [D.eqv]
  | _, .str _, _ => by simp [D.eqv]
  | 0, .tup _, h => by simp [D.plain] at h
  | 0, .lst _, h => by simp [D.plain] at h
  | 0, .ftup _, h => by simp [D.plain] at h
  | n + 1, .ftup xs, h => by
    simp only [D.plain] at h
    simp only [D.eqv]
    exact eqvs_refl h
  | n + 1, .tup xs, h => by
    simp only [D.plain] at h
    simp only [D.eqv]
    exact eqvs_refl h
  | n + 1, .lst xs, h => by
    simp only [D.plain] at h
    simp only [D.eqv]
    exact eqvs_refl h
  | _, .dic _ _ _, h => by simp [D.plain] at h
  | _, .ins _ _ _, h => by simp [D.plain] at h
  | _, .scr _, h => by simp [D.plain] at h
theorem eqvs_refl : ∀ {n : Nat} {ds : List D}, D.plains n ds = true → D.eqvs ds ds = true
  | _, [], _ => rfl
  | _, d :: ds, h => by
    simp only [D.plains, Bool.and_eq_true] at h
    simp only [D.eqvs, Bool.and_eq_true]
    exact ⟨eqv_refl h.1, eqvs_refl h.2⟩
end
theorem eqD_refl {d : D} (h : d.plain 60 = true) : eqD d d = some true := by
  simp only [eqD, h, eqv_refl h, Bool.and_self, if_true]
theorem keyD_iD (k : List Int) : keyD true (iD k) = true := by
  simp only [keyD]
  rw [List.all_eq_true]
  intro d hd
  obtain ⟨i, _, rfl⟩ := List.mem_map.mp hd
  rfl
theorem dget_enc : ∀ (m : Poly) (k : List Int), dget (m.map fun r => iD r.1) (m.map fun r => .int r.2) (iD k) = (m.lookup k).map .int
  | [], _ => rfl
  | r :: m, k => by
    simp only [List.map_cons, dget, eqv_iD, dget_enc m k, List.lookup]
    by_cases h : r.1 = k
    · simp [h]
    · have : (k == r.1) = false := by simp; exact fun e => h e.symm
      simp [h, this]
def put (m : Poly) (k : List Int) (v : Int) : Poly := if (m.lookup k).isSome then m.map (fun r => if r.1 = k then (r.1, v) else r) else m ++ [(k, v)]
theorem dupd_enc : ∀ (m : Poly) (k : List Int) (v : Int), dupd (m.map fun r => iD r.1) (m.map fun r => .int r.2) (iD k) (.int v) = (m.map (fun r => if r.1 = k then (r.1, v) else r)).map fun r => .int r.2
  | [], _, _ => rfl
  | r :: m, k, v => by
    simp only [List.map_cons, dupd, eqv_iD, dupd_enc m k v]
    by_cases h : r.1 = k <;> simp [h]
theorem dput_enc (m : Poly) (k : List Int) (v : Int) : dput (m.map fun r => iD r.1) (m.map fun r => .int r.2) (iD k) (.int v) = ((put m k v).map (fun r => iD r.1), (put m k v).map fun r => .int r.2) := by
  simp only [dput, dget_enc, put, Option.isSome_map]
  by_cases h : (m.lookup k).isSome
  · simp only [h, if_true, dupd_enc, List.map_map]
    congr 1
    refine List.map_congr_left fun r _ => ?_
    by_cases h : r.1 = k <;> simp [h]
  · simp [h]
theorem put_keys {m : Poly} {k : List Int} {v : Int} : (put m k v).map (·.1) = if (m.lookup k).isSome then m.map (·.1) else m.map (·.1) ++ [k] := by
  unfold put
  split
  · rw [List.map_map]
    refine List.map_congr_left fun r _ => ?_
    simp only [Function.comp]
    split <;> simp_all
  · simp
theorem put_len {m : Poly} {k : List Int} {v : Int} : (put m k v).length ≤ m.length + 1 := by
  unfold put; split <;> simp
theorem put_mem {m : Poly} {k : List Int} {v : Int} {r} (h : r ∈ put m k v) : r = (k, v) ∨ r ∈ m := by
  unfold put at h
  split at h
  · obtain ⟨q, hq, e⟩ := List.mem_map.mp h
    split at e
    · next h2 => left; rw [← e, h2]
    · right; rw [← e]; exact hq
  · rcases List.mem_append.mp h with h | h
    · exact .inr h
    · left; simpa using h
def putL (a f : Poly) : Poly := f.foldl (fun m r => put m r.1 r.2) a
theorem dcRows_m : ∀ (f a : Poly), dcRows (f.map rowD) (a.map fun r => iD r.1) (a.map fun r => .int r.2) = some ((putL a f).map (fun r => iD r.1), (putL a f).map fun r => .int r.2)
  | [], _ => rfl
  | r :: f, a => by
    rw [List.map_cons]
    unfold dcRows
    rw [if_pos (keyD_iD _), dput_enc, dcRows_m f]; rfl
theorem dictT_m {f : Poly} (h : f.length ≤ 16777216) : dictT (pD f) = some (dcD (putL [] f)) := by
  simp only [dictT]
  rw [if_pos (by simpa [szL] using h)]
  have := dcRows_m f []
  simp only [List.map_nil] at this
  rw [this]; rfl
theorem stK_m {m : Poly} {k : List Int} {v : Int} (h : m.length < 16777216) : stKK i (.int v) (iD k) e (some (.own (dcD m))) = some (.nx (e.set i (.own (dcD (put m k v))))) := by
  rw [stKK_e, if_pos ⟨keyD_iD k, by simpa [szL] using h, by simp⟩, dput_enc]
theorem getK_m {m : Poly} {k : List Int} : getK (dcD m) (iD k) = (m.lookup k).map .int := by
  simp only [getK, keyD_iD, if_true, dget_enc]
theorem getK2_m {m : Poly} {k : List Int} {v : Int} : getK2 (dcD m) (iD k) (.int v) = some (.int ((m.lookup k).getD v)) := by
  simp only [getK2, keyD_iD, if_true, dget_enc]
  cases m.lookup k <;> rfl
theorem lookup_mem {κ ν : Type} [BEq κ] [LawfulBEq κ] : ∀ {m : List (κ × ν)} {k : κ}, k ∈ m.map (·.1) → ∃ v, m.lookup k = some v ∧ (k, v) ∈ m
  | [], k, h => by simp at h
  | r :: m, k, h => by
    rw [List.lookup]
    by_cases e : k = r.1
    · subst e; exact ⟨r.2, by simp, by simp⟩
    · have h2 : k ∈ m.map (·.1) := by
        rw [List.map_cons] at h
        rcases List.mem_cons.mp h with h | h
        · exact absurd h e
        · exact h
      obtain ⟨v, h3, h4⟩ := lookup_mem h2
      have : (k == r.1) = false := by simpa using e
      rw [this]
      exact ⟨v, h3, List.mem_cons_of_mem _ h4⟩
theorem tupsInts_map : ∀ l : List (List Int), tupsInts (l.map iD) = some l
  | [] => rfl
  | a :: l => by simp [tupsInts, tupInts, intsOf_map, tupsInts_map l]
def Pw (p n : Nat) (k : List Int) : Prop := k.length = n ∧ ∀ x ∈ k, 0 ≤ x ∧ x < (p : Int)
theorem srt_m {m : Poly} (hl : m.length ≤ 16777216) (hk : ∀ r ∈ m, r.1 ≠ []) : ((m.map fun r => iD r.1).length ≤ 16777216) ∧ neB (m.map (·.1)) = true := by
  refine ⟨by simpa using hl, ?_⟩
  unfold neB
  rw [List.all_eq_true]
  intro k h
  obtain ⟨r, hr, rfl⟩ := List.mem_map.mp h
  have := hk r hr
  cases h : r.1 with
  | nil => exact absurd h this
  | cons a l => rfl
theorem sortKL_g {m : Poly} (hl : m.length ≤ 16777216) (hk : ∀ r ∈ m, r.1 ≠ []) : sortKL (dcD m) = some (.lst (((m.map (·.1)).mergeSort lexLe).map iD)) := by
  have e : (m.map fun r => iD r.1) = (m.map (·.1)).map iD := by simp
  simp only [sortKL, e, tupsInts_map, Option.bind_some]
  rw [if_pos ⟨by simpa [szL] using hl, (srt_m hl hk).2⟩]
theorem sortKR_g {m : Poly} (hl : m.length ≤ 16777216) (hk : ∀ r ∈ m, r.1 ≠ []) : sortKR (dcD m) = some (.lst ((((m.map (·.1)).mergeSort lexLe).reverse).map iD)) := by
  have e : (m.map fun r => iD r.1) = (m.map (·.1)).map iD := by simp
  simp only [sortKR, e, tupsInts_map, Option.bind_some]
  rw [if_pos ⟨by simpa [szL] using hl, (srt_m hl hk).2⟩]
theorem Pw.ne {p n : Nat} {k : List Int} (h : Pw p n k) (hn : 1 ≤ n) : k ≠ [] := fun e => by
  have := h.1
  rw [e] at this
  simp at this
  omega
def mk (p : Nat) (m : Poly) : Poly := (((m.map (·.1)).mergeSort lexLe).map fun k => (k, (m.lookup k).getD 0 % (p : Int))).reverse.filter fun r => r.2 ≠ 0
def Pol (p n : Nat) (f : Poly) : Prop := ∀ r ∈ f, Pw p n r.1 ∧ 0 ≤ r.2 ∧ r.2 < (p : Int)
theorem mk_pol {p n : Nat} {m : Poly} (hp : 0 < p) (hk : ∀ r ∈ m, Pw p n r.1) : Pol p n (mk p m) := by
  intro r hr
  unfold mk at hr
  have h1 := (List.mem_filter.mp hr).1
  rw [List.mem_reverse] at h1
  obtain ⟨k, hk2, rfl⟩ := List.mem_map.mp h1
  have h3 : k ∈ m.map (·.1) := (List.mergeSort_perm _ _).mem_iff.mp hk2
  obtain ⟨q, hq, rfl⟩ := List.mem_map.mp h3
  exact ⟨hk q hq, Int.emod_nonneg _ (by omega), Int.emod_lt_of_pos _ (by omega)⟩
theorem mk_len {p : Nat} {m : Poly} : (mk p m).length ≤ m.length := by
  unfold mk
  refine Nat.le_trans (List.length_filter_le _ _) ?_
  simp
theorem emod_nat (a : Int) {m : Nat} (h : 0 < m) : ∃ t : Nat, a % (m : Int) = t ∧ t < m := by
  have h1 := Int.emod_nonneg a (show (m : Int) ≠ 0 by omega)
  have h2 := Int.emod_lt_of_pos a (show (0 : Int) < (m : Int) by omega)
  exact ⟨(a % (m : Int)).toNat, by omega, by omega⟩
end PV

namespace PV
open PySem
local macro_rules | `(tactic| simp_arith [$args,*] $[$loc]?) => `(tactic| simp -implicitDefEqProofs (disch := first | omega | (simp only [List.length_map, List.length_cons, List.length_nil, List.length_append, List.length_range, List.length_replicate]; omega)) only [sq_e, sqK_nx, sqK_ret, sqK_bk, sqK_ct, skip_e, setE_e, newE_e, rt_e, brk_e, cnt_e, ifS_e, ifK_t, ifK_f, ifX_t, ifX_f, ifT_t, ifT_f, fncK_ret, fncK_nx, ctK_nx, ctK_ct, ctK_ret, lcK_e, lstK_e, tupK_e, tupK_f, tupK_cat, ftupD_lst, ftupE_e, lenD_f, getD_f, addD_ff, blK_e, ovK_e, vaK_e, ife_e, var_e, ovar_e, cst_e, op1_e, op2_e, op3_e, aN_e, aC_e, tupE_e, lstE_e, cal_e, f1_e, cmp_e, flip_e, neg_e, chn_e, boo_e, tes_e, ff_e, tt_e, andT_e, orT_e, notT_e, fX_e, tX_e, andV_e, orV_e, notV_e, isN_e, yes_e, asg_e, gD_n, gD_t, gDs_n, gDs_c, frz_e, mov_e, movO_e, forE_e, iLst_e, iTp_e, iRng_e, one1_c, two2_c, iZp_e, lcE_e, lc2E_e, wip_n, wip_c, noOwn_n, noOwn_c, noO_no, noO_val, fnc_e, ini_e, met_e, fld_e, slE_e, prK_e, prt_e, prN_e, dic1_e, appK_e, app_e, extK_e, ext_e, stK_e, drpA_e, drpK_e, addD_int, addD_tup, addD_lst, subD_int, mulD_l, mulD_r, modD_int, divD_int, intD_int, intD_bl, ltD_int, leD_int, eqD_int, eqD_bl, lenD_lst, lenD_tup, lenD_scr, tupD_lst, listD_lst, listD_tup, revL_lst, isBool_bl, max2_int, isBD_bl, revT_tup, iEnum_e, iItm_e, iSq_e, isC_i, isLst_l, addI_int, subI_int, iZm_e, seqK_t, seqK_l, dcE_e, getD_l, getD_t, getD_s, rngL_n, rngL_i, rngL_2, sumL_ints, sumT_tup, sumT_lst, allL_bls, anyL_bls, lcT_t, lcT_f, set_0, set_s, szL_le, szL_lt, Option.bind_some, Option.map_some, List.map_cons, List.map_nil, List.length_cons, List.length_nil, List.length_map, List.length_range, List.getElem?_cons_zero, List.getElem?_cons_succ, List.getElem?_map, List.replicate_succ, List.replicate_zero, List.cons_append, List.nil_append, if_true, if_false, ite_true, ite_false, Bool.and_true, Bool.true_and, Bool.and_self, and_true, true_and, and_self, decide_true, decide_false, Bool.not_true, Bool.not_false, eq_self, Int.toNat_natCast, Int.toNat_zero, Nat.reduceAdd, Nat.reduceSub, Nat.reduceLeDiff, Nat.reduceMul, Nat.reduceEqDiff, Int.reduceToNat, Nat.zero_add, Nat.reduceLT, Int.reduceLT, Int.reduceLE, Int.reduceEq, Int.reduceNe, Int.reduceMul, Int.reduceAdd, Int.reducePow, Bool.false_eq_true, reduceCtorEq, not_true_eq_false, not_false_eq_true, ne_eq, Option.getD_some, if_pos, List.length_append, List.length_replicate, msI, maI, msT, maT, msP, maR, $args,*] $[$loc]?)
theorem cell_eq (ns : List Int) (k : Nat) : F__law_cell [.scr ns, .int k] = some (.int (ns.getD k 0)) := by
  unfold F__law_cell
  by_cases h : k < ns.length
  · have h1 : ns[k]? = some ns[k] := List.getElem?_eq_getElem h
    have h2 : ((k : Int) < (ns.length : Int)) := by omega
    simp_arith [h2, h1]
    simp [h]
  · have h1 : ns[k]? = none := List.getElem?_eq_none (by omega)
    have h2 : ¬ ((k : Int) < (ns.length : Int)) := by omega
    simp_arith [h2]
    simp [h1]
def shapes : List (Nat × Nat) := [(2, 1), (2, 2), (2, 3), (3, 1), (3, 2), (5, 1), (2, 4), (3, 3), (7, 1), (5, 2), (2, 5), (7, 2)]
def Sh (p n : Nat) : Prop := (p, n) ∈ shapes
theorem shape_eq (c : Int) : ∃ p n, Sh p n ∧ F__law_shape [.int c] = some (.tup [nD p, nD n]) := by
  have h0 : 0 ≤ c % 12 := Int.emod_nonneg _ (by omega)
  have h1 : c % 12 < 12 := Int.emod_lt_of_pos _ (by omega)
  obtain ⟨i, hi⟩ : ∃ i : Nat, c % 12 = i := ⟨(c % 12).toNat, by omega⟩
  have h2 : i < 12 := by omega
  refine ⟨shapes[i].1, shapes[i].2, List.getElem_mem h2, ?_⟩
  unfold F__law_shape
  simp_arith [hi]
  have : i = 0 ∨ i = 1 ∨ i = 2 ∨ i = 3 ∨ i = 4 ∨ i = 5 ∨ i = 6 ∨ i = 7 ∨ i = 8 ∨ i = 9 ∨ i = 10 ∨ i = 11 := by omega
  rcases this with rfl | rfl | rfl | rfl | rfl | rfl | rfl | rfl | rfl | rfl | rfl | rfl <;> rfl
theorem Sh.bd {p n : Nat} (h : Sh p n) : 2 ≤ p ∧ p ≤ 7 ∧ 1 ≤ n ∧ n ≤ 5 := by
  have : ∀ s ∈ shapes, 2 ≤ s.1 ∧ s.1 ≤ 7 ∧ 1 ≤ s.2 ∧ s.2 ≤ 5 := by decide
  exact this _ h
theorem digits_eq (c m : Int) (n : Nat) (hm : 1 ≤ m ∧ m ≤ 100000) (hn : n ≤ 1000) : ∃ L : List Int, F__law_digits [.int c, D.int m, nD n] = some (.lst (L.map .int)) ∧ L.length = n ∧ ∀ d ∈ L, 0 ≤ d ∧ d < m := by
  unfold F__law_digits
  simp_arith []
  have key : ∀ x : Int, 0 ≤ x % m ∧ x % m < m := fun x => ⟨Int.emod_nonneg _ (by omega), Int.emod_lt_of_pos _ (by omega)⟩
  generalize hl : loop _ _ _ _ = o
  obtain ⟨e, rfl, L, r, s5, s6, rfl, hL, hb⟩ := loop_o hl (fun i e => ∃ (L : List Int) (r : Int) (s5 s6 : DSlot), e = [.val (.int c), .val (.int m), .val (nD n), .own (.lst (L.map .int)), .val (.int r), s5, s6] ∧ L.length = i ∧ ∀ d ∈ L, 0 ≤ d ∧ d < m)
    ⟨[], c, .no, .no, rfl, rfl, by simp⟩ (by
      rintro i k e hk ⟨L, r, s5, s6, rfl, hL, hb⟩
      have hi : i < n := by
        have := (List.getElem?_eq_some_iff.mp hk).1
        simpa using this
      have app : ∀ x : Int, ∀ d ∈ L ++ [x % m], 0 ≤ d ∧ d < m := fun x d hd => by
        rcases List.mem_append.mp hd with h | h
        · exact hb d h
        · rw [List.mem_singleton.mp h]; exact key x
      by_cases hc : (1000000000000000000 : Int) ≤ c
      · refine stp (by simp_arith [hc, powD_18, msI]; rfl) ?_
        exact ⟨_, _, _, _, rfl, by simp [hL], app r⟩
      · have h1 : (1000000000000000000 : Int) ≤ c ↔ False := iff_false_intro hc
        refine stp (by simp_arith [h1, powD_18, msI]; rfl) ?_
        exact ⟨_, _, _, _, rfl, by simp [hL], app _⟩)
  exact ⟨L, by simp_arith [], by simpa using hL, hb⟩

def grow (p : Nat) (l : List (List Int)) : List (List Int) := l.flatMap fun r => (List.range p).map fun k : Nat => r ++ [(k : Int)]
def pts (p : Nat) : Nat → List (List Int)
  | 0 => [[]]
  | n + 1 => grow p (pts p n)
theorem pts_pw {p : Nat} : ∀ {n : Nat}, ∀ r ∈ pts p n, Pw p n r
  | 0, r, h => by
    simp [pts] at h; subst h; exact ⟨rfl, by simp⟩
  | n + 1, r, h => by
    obtain ⟨q, hq, h2⟩ := List.mem_flatMap.mp h
    obtain ⟨k, hk, rfl⟩ := List.mem_map.mp h2
    have h3 := pts_pw q hq
    refine ⟨by simp [h3.1], fun x hx => ?_⟩
    rcases List.mem_append.mp hx with h | h
    · exact h3.2 x h
    · rw [List.mem_singleton.mp h]
      have := List.mem_range.mp hk
      omega
theorem grow_len {p : Nat} : ∀ l : List (List Int), (grow p l).length = l.length * p
  | [] => by simp [grow]
  | a :: l => by
    have := grow_len (p := p) l
    unfold grow at this ⊢
    rw [List.flatMap_cons, List.length_append, this, List.length_map, List.length_range, List.length_cons, Nat.add_mul]; omega
theorem pts_len {p : Nat} : ∀ n : Nat, (pts p n).length = p ^ n
  | 0 => rfl
  | n + 1 => by rw [pts, grow_len, pts_len n, Nat.pow_succ]
def menu : List Str := ["x", "y", "z", "x1", "b", "word", "k9", "verylongname"]
def nms (a b n : Nat) : List Str := (List.range n).map fun k => menu.getD ((a + b * k) % 8) ""
theorem getD_1357 {b : Nat} (h : b < 4) : getD (.lst [.int 1, .int 3, .int 5, .int 7]) (.int b) = some (nD ([1, 3, 5, 7].getD b 0)) := by
  have : b = 0 ∨ b = 1 ∨ b = 2 ∨ b = 3 := by omega
  rcases this with rfl | rfl | rfl | rfl <;> rfl
theorem names_eq (c : Int) (n : Nat) (hn : n < 1000) : ∃ a b, a < 8 ∧ b < 4 ∧ F__law_names [.int c, nD n] = some (.lst ((nms a ([1, 3, 5, 7].getD b 0) n).map .str)) := by
  have h0 : 0 ≤ c % 8 := Int.emod_nonneg _ (by omega)
  have h1 : c % 8 < 8 := Int.emod_lt_of_pos _ (by omega)
  obtain ⟨a, ha⟩ : ∃ a : Nat, c % 8 = a := ⟨(c % 8).toNat, by omega⟩
  have h2 : 0 ≤ (c / 8) % 4 := Int.emod_nonneg _ (by omega)
  have h3 : (c / 8) % 4 < 4 := Int.emod_lt_of_pos _ (by omega)
  obtain ⟨b, hb⟩ : ∃ b : Nat, (c / 8) % 4 = b := ⟨((c / 8) % 4).toNat, by omega⟩
  have hb4 : b < 4 := by omega
  refine ⟨a, b, by omega, hb4, ?_⟩
  unfold F__law_names
  have hst : [1, 3, 5, 7].getD b 0 < 8 := by
    have : b = 0 ∨ b = 1 ∨ b = 2 ∨ b = 3 := by omega
    rcases this with rfl | rfl | rfl | rfl <;> decide
  have hg := getD_1357 hb4
  generalize [1, 3, 5, 7].getD b 0 = st at hst hg ⊢
  have e1 : lcRun (gD (.n 5)) yes (op2 getD (var 2) (op2 modD (cal (f1 intD) (aC (op2 addD (var 3) (op2 mulD (var 4) (var 5))) aN)) (cst (.int 8)))) [.val (.int c), .val (nD n), .val (.lst (menu.map .str)), .val (nD a), .val (nD st), .no] ((List.range n).map fun (k : Nat) => D.int (k : Int)) = some ((nms a st n).map .str) :=
    lcRun_m (fun k => menu.getD ((a + st * k) % 8) "") fun k hk => by
      have e : ((a : Int) + st * (k : Int)) % 8 = (((a + st * k) % 8 : Nat) : Int) := by push_cast; rfl
      have hl : (a + st * k) % 8 < menu.length := Nat.mod_lt _ (by decide)
      simp_arith [e]
      rw [List.getElem?_eq_getElem hl]
      simp [List.getD, List.getElem?_eq_getElem hl]
  simp only [menu, List.map_cons, List.map_nil] at e1
  simp -implicitDefEqProofs (disch := first | omega | (simp only [List.length_map, List.length_cons, List.length_nil, List.length_append, List.length_range, List.length_replicate]; omega)) only [sq_e, sqK_nx, sqK_ret, sqK_bk, sqK_ct, skip_e, setE_e, newE_e, rt_e, brk_e, cnt_e, ifS_e, ifK_t, ifK_f, ifX_t, ifX_f, ifT_t, ifT_f, fncK_ret, fncK_nx, ctK_nx, ctK_ct, ctK_ret, lcK_e, lstK_e, tupK_e, tupK_f, tupK_cat, ftupD_lst, ftupE_e, lenD_f, getD_f, addD_ff, blK_e, ovK_e, vaK_e, ife_e, var_e, ovar_e, cst_e, op1_e, op2_e, op3_e, aN_e, aC_e, tupE_e, lstE_e, cal_e, f1_e, cmp_e, flip_e, neg_e, chn_e, boo_e, tes_e, ff_e, tt_e, andT_e, orT_e, notT_e, fX_e, tX_e, andV_e, orV_e, notV_e, isN_e, yes_e, asg_e, gD_n, gD_t, gDs_n, gDs_c, frz_e, mov_e, movO_e, forE_e, iLst_e, iTp_e, iRng_e, one1_c, two2_c, iZp_e, lcE_e, lc2E_e, wip_n, wip_c, noOwn_n, noOwn_c, noO_no, noO_val, fnc_e, ini_e, met_e, fld_e, slE_e, prK_e, prt_e, prN_e, dic1_e, appK_e, app_e, extK_e, ext_e, stK_e, drpA_e, drpK_e, addD_int, addD_tup, addD_lst, subD_int, mulD_l, mulD_r, modD_int, divD_int, intD_int, intD_bl, ltD_int, leD_int, eqD_int, eqD_bl, lenD_lst, lenD_tup, lenD_scr, tupD_lst, listD_lst, listD_tup, revL_lst, isBool_bl, max2_int, isBD_bl, revT_tup, iEnum_e, iItm_e, iSq_e, isC_i, isLst_l, addI_int, subI_int, iZm_e, seqK_t, seqK_l, dcE_e, getD_t, getD_s, rngL_n, rngL_i, rngL_2, sumL_ints, sumT_tup, sumT_lst, allL_bls, anyL_bls, lcT_t, lcT_f, set_0, set_s, szL_le, szL_lt, Option.bind_some, Option.map_some, List.map_cons, List.map_nil, List.length_cons, List.length_nil, List.length_map, List.length_range, List.getElem?_cons_zero, List.getElem?_cons_succ, List.getElem?_map, List.replicate_succ, List.replicate_zero, List.cons_append, List.nil_append, if_true, if_false, ite_true, ite_false, Bool.and_true, Bool.true_and, Bool.and_self, and_true, true_and, and_self, decide_true, decide_false, Bool.not_true, Bool.not_false, eq_self, Int.toNat_natCast, Int.toNat_zero, Nat.reduceAdd, Nat.reduceSub, Nat.reduceLeDiff, Nat.reduceMul, Nat.reduceEqDiff, Int.reduceToNat, Nat.zero_add, Nat.reduceLT, Int.reduceLT, Int.reduceLE, Int.reduceEq, Int.reduceNe, Int.reduceMul, Int.reduceAdd, Int.reducePow, Bool.false_eq_true, reduceCtorEq, not_true_eq_false, not_false_eq_true, ne_eq, Option.getD_some, if_pos, List.length_append, List.length_replicate, msI, maI, msT, maT, msP, maR, ha, hb, hg, e1]
def inCK (n : Bool) (ds : List D) : D → Option Bool
  | .int i => some (n != ds.any fun z => D.eqv z (.int i))
  | _ => none
theorem inC_e {a : Ex} {e} : inC n ds a e = (a e).bind (inCK n ds) := by unfold inC; congr
def setFK (c f : Str) (d : D) (i : Nat) (e : DEnv) : Option DSlot → Option DRes
  | some (.slf (.ins c' fs xs)) => if c' = c ∧ fs.length < 1000 ∧ fs.length = xs.length then some (.nx (e.set i (.slf (.ins c' (putFD f d fs xs).1 (putFD f d fs xs).2)))) else none
  | _ => none
theorem setF_e {a : Ex} {e : DEnv} : setF i c f a e = (a e).bind fun d => setFK c f d i e e[i]? := by unfold setF; congr
theorem setFK_e : setFK c f d i e (some (.slf (.ins c fs xs))) = if c = c ∧ fs.length < 1000 ∧ fs.length = xs.length then some (.nx (e.set i (.slf (.ins c (putFD f d fs xs).1 (putFD f d fs xs).2)))) else none := rfl
theorem putF_n : putFD f d [] [] = ([f], [d]) := rfl
theorem putF_c (h : g ≠ f) : putFD f d (g :: gs) (x :: xs) = (g :: (putFD f d gs xs).1, x :: (putFD f d gs xs).2) := by
  rw [putFD]; exact if_neg h
theorem iniK_ok {e} : iniK c (.nx (.slf (.ins c fs xs) :: e)) = some (.ins c fs xs) := by simp [iniK]
def spcD (p : Nat) (ns : List Str) : D := .ins "Space" ["prime", "names", "count"] [nD p, .lst (ns.map .str), nD ns.length]
theorem sp_prime {p : Nat} {ns} : attr ["Space"] "prime" (spcD p ns) = some (nD p) := by
  simp only [attr, spcD]; rw [if_pos (by decide)]; rfl
theorem sp_names {p : Nat} {ns} : attr ["Space"] "names" (spcD p ns) = some (.lst (ns.map .str)) := by
  simp only [attr, spcD]; rw [if_pos (by decide)]; rfl
theorem sp_count {p : Nat} {ns} : attr ["Space"] "count" (spcD p ns) = some (nD ns.length) := by
  simp only [attr, spcD]; rw [if_pos (by decide)]; rfl
theorem space_eq {p : Nat} {ns : List Str} (hp : p = 2 ∨ p = 3 ∨ p = 5 ∨ p = 7) (hn : 1 ≤ ns.length ∧ ns.length ≤ 8) (hv : ∀ x ∈ ns, F_is_name [.str x] = some (.bl true))
    (hd : lenSet (.lst (ns.map .str)) = some (nD ns.length)) (hm : ∃ m, look [(2, 8), (3, 5), (5, 3), (7, 2)] p = some m ∧ ns.length ≤ m) : F_Space___init__ [nD p, .lst (ns.map .str)] = some (spcD p ns) := by
  have e1 : inCK true [.int 2, .int 3, .int 5, .int 7] (nD p) = some false := by
    rcases hp with rfl | rfl | rfl | rfl <;> rfl
  have e2 : lcRun (gD (.n 3)) yes (cal F_is_name (aC (var 3) aN)) [.slf (.ins "Space" [] []), .val (nD p), .val (.lst (ns.map .str)), .no] (ns.map .str) = some ((ns.map fun _ => true).map D.bl) :=
    lcRun_m (fun _ => true) fun x hx => by
      have h1 := hv x hx
      simp_arith [h1]
  obtain ⟨m, h3, h4⟩ := hm
  have e3 : tabI [(2, 8), (3, 5), (5, 3), (7, 2)] (nD p) = some (.int m) := by
    simp only [tabI, h3, Option.map_some]
  have h5 : ((m : Int) < (ns.length : Int)) ↔ False := iff_false_intro (by omega)
  have h6 : ((ns.length : Int) < (ns.length : Int)) ↔ False := iff_false_intro (by omega)
  have h7 : (1 : Int) ≤ (ns.length : Int) := by omega
  have h8 : (ns.length : Int) ≤ 8 := by omega
  have e4 : (ns.map fun _ => true).all id = true := by simp
  have n1 : ("prime" : Str) ≠ "names" := by decide
  have n2 : ("prime" : Str) ≠ "count" := by decide
  have n3 : ("names" : Str) ≠ "count" := by decide
  unfold F_Space___init__
  simp_arith [inC_e, e1, h7, h8, e2, e4, hd, h6, e3, h5, setF_e, setFK_e, putF_n, putF_c n1, putF_c n2, putF_c n3, iniK_ok]
  rfl
theorem names_ok : ∀ x ∈ menu, F_is_name [.str x] = some (.bl true) := by
  intro x hx
  simp only [menu, List.mem_cons, List.not_mem_nil, or_false] at hx
  rcases hx with rfl | rfl | rfl | rfl | rfl | rfl | rfl | rfl <;> rfl
theorem strsOf_map : ∀ l : List Str, strsOf (l.map .str) = some l
  | [] => rfl
  | a :: l => by simp [strsOf, strsOf_map l]
theorem names_dst : ∀ a < 8, ∀ b < 4, ∀ n < 6, (dst (nms a ([1, 3, 5, 7].getD b 0) n)).length = n := by decide
theorem nms_len : (nms a b n).length = n := by simp [nms]
theorem nms_mem : ∀ x ∈ nms a b n, x ∈ menu := by
  intro x hx
  obtain ⟨k, _, rfl⟩ := List.mem_map.mp hx
  have h : (a + b * k) % 8 < menu.length := Nat.mod_lt _ (by decide)
  rw [List.getD, List.getElem?_eq_getElem h]
  exact List.getElem_mem h
theorem Sh.most {p n : Nat} (h : Sh p n) : (p = 2 ∨ p = 3 ∨ p = 5 ∨ p = 7) ∧ ∃ m, look [(2, 8), (3, 5), (5, 3), (7, 2)] p = some m ∧ n ≤ m := by
  have : ∀ s ∈ shapes, (s.1 = 2 ∨ s.1 = 3 ∨ s.1 = 5 ∨ s.1 = 7) ∧ ∃ m ∈ [8, 5, 3, 2], look [(2, 8), (3, 5), (5, 3), (7, 2)] s.1 = some m ∧ s.2 ≤ m := by decide
  obtain ⟨h1, m, _, h2⟩ := this _ h
  exact ⟨h1, m, h2⟩
theorem space_made {p n : Nat} (h : Sh p n) (ha : a < 8) (hb : b < 4) : F_Space___init__ [nD p, .lst ((nms a ([1, 3, 5, 7].getD b 0) n).map .str)] = some (spcD p (nms a ([1, 3, 5, 7].getD b 0) n)) := by
  obtain ⟨h1, m, h2, h3⟩ := h.most
  have h4 := h.bd
  have hl : (nms a ([1, 3, 5, 7].getD b 0) n).length = n := nms_len
  refine space_eq h1 (by omega) (fun x hx => names_ok x (nms_mem x hx)) ?_ ⟨m, h2, by omega⟩
  simp only [lenSet, strsOf_map, Option.bind_some]
  rw [if_pos (by omega), names_dst a ha b hb n (by omega), hl]

theorem made_g {p : Nat} {m : Poly} (hp : 1 ≤ p) (hl : m.length ≤ 100000) (hk : ∀ r ∈ m, r.1 ≠ []) : F__law_made [nD p, dcD m] = some (pD (mk p m)) := by
  have e0 := sortKL_g (by omega) hk
  generalize hK : (m.map (·.1)).mergeSort lexLe = K at e0
  have hKl : K.length = m.length := by rw [← hK]; simp
  have hKm : ∀ k ∈ K, k ∈ m.map (·.1) := fun k h => by
    rw [← hK] at h; exact (List.mergeSort_perm _ _).mem_iff.mp h
  have e1 : lcRun (gD (.n 3)) yes (tupE (aC (var 3) (aC (op2 modD (cal (f1 intD) (aC (op2 getK (var 1) (var 3)) aN)) (var 0)) aN))) [.val (nD p), .val (dcD m), .no, .no, .no] (K.map iD) = some ((K.map fun k => (k, (m.lookup k).getD 0 % (p : Int))).map rowD) :=
    lcRun_m (fun k => (k, (m.lookup k).getD 0 % (p : Int))) fun k hk => by
      obtain ⟨v, h1, _⟩ := lookup_mem (hKm k hk)
      simp_arith [getK_m, h1]
  have e2 : lcRun (gD (.n 4)) (cmp (neg eqD) (op2 getD (var 4) (cst (.int 1))) (cst (.int 0))) (var 4) [.val (nD p), .val (dcD m), .val (.lst ((K.map fun k => (k, (m.lookup k).getD 0 % (p : Int))).map rowD)), .no, .no] ((K.map fun k => (k, (m.lookup k).getD 0 % (p : Int))).reverse.map rowD) = some ((((K.map fun k => (k, (m.lookup k).getD 0 % (p : Int))).reverse.filter fun r => r.2 ≠ 0).map id).map rowD) :=
    lcRun_f (enc := rowD) (enc' := rowD) (fun r : List Int × Int => decide (r.2 ≠ 0)) id fun r hr => by
      by_cases h : r.2 = 0
      · simp_arith [h]
      · have h2 : r.2 = 0 ↔ False := iff_false_intro h
        simp_arith [h2, id]
  have e3 : ((K.map fun k => (k, (m.lookup k).getD 0 % (p : Int))).map rowD).reverse = ((K.map fun k => (k, (m.lookup k).getD 0 % (p : Int))).reverse).map rowD := by rw [List.map_reverse]
  unfold F__law_made
  simp_arith [e0, e1, e3, e2, List.length_reverse, List.map_id]
  unfold mk
  rw [hK]
theorem made_eq {p n : Nat} {m : Poly} (hp : 1 ≤ p ∧ p ≤ 1000) (hn : 1 ≤ n) (hl : m.length < 64) (hk : ∀ r ∈ m, Pw p n r.1) : F__law_made [nD p, dcD m] = some (pD (mk p m)) :=
  made_g hp.1 (by omega) fun r hr => (hk r hr).ne hn

theorem modmul (a b n : Int) : a % n * b % n = a * b % n := by rw [Int.mul_emod, Int.emod_emod, ← Int.mul_emod]
theorem one_mod {p : Nat} (hp : 2 ≤ p) : (1 : Int) % (p : Int) = 1 := Int.emod_eq_of_lt (by omega) (by omega)
def monL (l : List (Int × Int)) : Int := l.foldl (fun a q => a * q.2 ^ q.1.toNat) 1
theorem monL_snoc : monL (l ++ [q]) = monL l * q.2 ^ q.1.toNat := by simp [monL]
def mon (pw pt : List Int) : Int := monL (pw.zip pt)
def val (p : Nat) (f : Poly) (pt : List Int) : Int := (f.map fun r => r.2 * (mon r.1 pt % (p : Int))).sum % (p : Int)

theorem imm_int : D.imm (.int i) = true := by simp [D.imm]
def addM (l : Poly) : Poly := l.foldl (fun m r => put m r.1 ((m.lookup r.1).getD 0 + r.2)) []
theorem addM_snoc : addM (l ++ [r]) = put (addM l) r.1 (((addM l).lookup r.1).getD 0 + r.2) := by simp [addM]
theorem snoc_ind {α : Type} {P : List α → Prop} (h0 : P []) (h1 : ∀ l x, P l → P (l ++ [x])) (l : List α) : P l := by
  have : ∀ l : List α, P l.reverse := fun l => by
    induction l with
    | nil => exact h0
    | cons a l ih => rw [List.reverse_cons]; exact h1 _ _ ih
  have h := this l.reverse
  rw [List.reverse_reverse] at h
  exact h
theorem addM_len (l : Poly) : (addM l).length ≤ l.length := by
  induction l using snoc_ind with
  | h0 => simp [addM]
  | h1 l x ih => rw [addM_snoc, List.length_append]; exact Nat.le_trans put_len (by simpa using ih)
theorem addM_key {P : List Int → Prop} (l : Poly) (h : ∀ r ∈ l, P r.1) : ∀ r ∈ addM l, P r.1 := by
  induction l using snoc_ind with
  | h0 => simp [addM]
  | h1 l x ih =>
    intro r hr
    rw [addM_snoc] at hr
    rcases put_mem hr with rfl | hr
    · exact h x (by simp)
    · exact ih (fun r hr => h r (by simp [hr])) r hr
theorem addM_pw {p n : Nat} (l : Poly) (h : ∀ r ∈ l, Pw p n r.1) : ∀ r ∈ addM l, Pw p n r.1 := addM_key l h
theorem Pol.pw {p n : Nat} {f : Poly} (h : Pol p n f) : ∀ r ∈ f, Pw p n r.1 := fun r hr => (h r hr).1
theorem Pol.app {p n : Nat} {f g : Poly} (h : Pol p n f) (h2 : Pol p n g) : Pol p n (f ++ g) := fun r hr => by
  rcases List.mem_append.mp hr with hr | hr
  · exact h r hr
  · exact h2 r hr

theorem em_add {a b c d n : Int} (h1 : a % n = b % n) (h2 : c % n = d % n) : (a + c) % n = (b + d) % n := by rw [Int.add_emod, h1, h2, ← Int.add_emod]
theorem em_mul {a b c d n : Int} (h1 : a % n = b % n) (h2 : c % n = d % n) : (a * c) % n = (b * d) % n := by rw [Int.mul_emod, h1, h2, ← Int.mul_emod]
def ws (W : List Int → Int) (f : Poly) : Int := (f.map fun r => r.2 * W r.1).sum
theorem ws_nil {W} : ws W [] = 0 := rfl
theorem ws_cons {W r f} : ws W (r :: f) = r.2 * W r.1 + ws W f := by simp [ws]
theorem ws_app {W f g} : ws W (f ++ g) = ws W f + ws W g := by simp [ws]
theorem ws_perm {W} {f g : Poly} (h : f.Perm g) : ws W f = ws W g := by
  induction h with
  | nil => rfl
  | cons x _ ih => rw [ws_cons, ws_cons, ih]
  | swap x y l => simp only [ws_cons]; omega
  | trans _ _ h1 h2 => rw [h1, h2]
theorem ws_rev {W} {f : Poly} : ws W f.reverse = ws W f := ws_perm (List.reverse_perm f)
theorem ws_nz {W} : ∀ {f : Poly}, ws W (f.filter fun r => r.2 ≠ 0) = ws W f
  | [] => rfl
  | r :: f => by
    rw [List.filter_cons]
    by_cases h : r.2 = 0
    · rw [if_neg (by simp [h]), ws_nz, ws_cons, h]; omega
    · rw [if_pos (by simp [h]), ws_cons, ws_cons, ws_nz]
def NK (m : Poly) : Prop := (m.map (·.1)).Nodup
theorem NK.cons {r : List Int × Int} {m : Poly} : NK (r :: m) ↔ r.1 ∉ m.map (·.1) ∧ NK m := by
  unfold NK; rw [List.map_cons, List.nodup_cons]
theorem look_none {m : Poly} {k : List Int} : m.lookup k = none ↔ k ∉ m.map (·.1) := by
  induction m with
  | nil => simp
  | cons r m ih =>
    rw [List.lookup]
    by_cases e : k = r.1
    · subst e; simp
    · have : (k == r.1) = false := by simpa using e
      rw [this]
      simp only [List.map_cons, List.mem_cons, not_or]
      exact ⟨fun h => ⟨e, ih.mp h⟩, fun h => ih.mpr h.2⟩
theorem put_nk {m : Poly} {k : List Int} {v : Int} (h : NK m) : NK (put m k v) := by
  unfold NK; rw [put_keys]
  split
  · exact h
  · rename_i z
    have z : m.lookup k = none := Option.not_isSome_iff_eq_none.mp z
    rw [List.nodup_append]
    refine ⟨h, by simp, ?_⟩
    intro a ha b hb e
    rw [List.mem_singleton] at hb
    subst hb; subst e
    exact look_none.mp z ha
theorem look_own {m : Poly} (h : NK m) : ∀ r ∈ m, m.lookup r.1 = some r.2 := by
  induction m with
  | nil => intro r hr; simp at hr
  | cons q m ih =>
    obtain ⟨h1, h2⟩ := NK.cons.mp h
    intro r hr
    rw [List.lookup]
    by_cases e : r.1 = q.1
    · have : (r.1 == q.1) = true := by simpa using e
      rw [this]
      rcases List.mem_cons.mp hr with rfl | hr
      · rfl
      · exact absurd (e ▸ List.mem_map_of_mem hr) h1
    · have : (r.1 == q.1) = false := by simpa using e
      rw [this]
      rcases List.mem_cons.mp hr with rfl | hr
      · exact absurd rfl e
      · exact ih h2 r hr
theorem ws_upd {W} {k : List Int} {v : Int} : ∀ {m : Poly}, NK m → k ∈ m.map (·.1) → ws W (m.map fun r => if r.1 = k then (r.1, v) else r) = ws W m + (v - (m.lookup k).getD 0) * W k
  | [], _, h => by simp at h
  | r :: m, h, hk => by
    obtain ⟨h1, h2⟩ := NK.cons.mp h
    rw [List.map_cons, ws_cons, ws_cons, List.lookup]
    by_cases e : r.1 = k
    · have e2 : (k == r.1) = true := by simpa using e.symm
      have e3 : m.map (fun r => if r.1 = k then (r.1, v) else r) = m := by
        conv => rhs; rw [← List.map_id m]
        refine List.map_congr_left fun q hq => ?_
        rw [if_neg (fun z => h1 (by rw [e, ← z]; exact List.mem_map_of_mem hq))]; rfl
      rw [e3, e2, if_pos e]
      simp only [Option.getD_some, e, Int.sub_mul]; omega
    · have e2 : (k == r.1) = false := by simpa using fun z : k = r.1 => e z.symm
      have hk2 : k ∈ m.map (·.1) := by
        rw [List.map_cons] at hk
        rcases List.mem_cons.mp hk with z | z
        · exact absurd z.symm e
        · exact z
      rw [if_neg e, e2, ws_upd h2 hk2]; simp only []; omega
theorem ws_put {W} {k : List Int} {v : Int} {m : Poly} (h : NK m) : ws W (put m k v) = ws W m + (v - (m.lookup k).getD 0) * W k := by
  unfold put
  split
  · rename_i z
    exact ws_upd h (by
      by_cases q : k ∈ m.map (·.1)
      · exact q
      · rw [look_none.mpr q] at z; simp at z)
  · rename_i z
    have z : m.lookup k = none := Option.not_isSome_iff_eq_none.mp z
    rw [ws_app, z, ws_cons, ws_nil]; simp
theorem addM_nk (l : Poly) : NK (addM l) := by
  induction l using snoc_ind with
  | h0 => simp [addM, NK]
  | h1 l x ih => rw [addM_snoc]; exact put_nk ih
theorem ws_addM {W} (l : Poly) : ws W (addM l) = ws W l := by
  induction l using snoc_ind with
  | h0 => simp [addM, ws]
  | h1 l x ih =>
    rw [addM_snoc, ws_put (addM_nk l), ws_app, ih, ws_cons, ws_nil]
    congr 1
    rw [show (List.lookup x.1 (addM l)).getD 0 + x.2 - (List.lookup x.1 (addM l)).getD 0 = x.2 by omega]; omega
def red (p : Nat) (m : Poly) : Poly := m.map fun r => (r.1, r.2 % (p : Int))
theorem ws_red {W} {p : Nat} : ∀ {m : Poly}, ws W (red p m) % (p : Int) = ws W m % (p : Int)
  | [] => rfl
  | r :: m => by
    rw [red, List.map_cons, ws_cons, ws_cons]
    exact em_add (modmul _ _ _) ws_red
theorem red_keys {p : Nat} {m : Poly} : (red p m).map (·.1) = m.map (·.1) := by simp [red]
theorem red_nk {p : Nat} {m : Poly} (h : NK m) : NK (red p m) := by unfold NK; rw [red_keys]; exact h
theorem red_look {p : Nat} {m : Poly} {k : List Int} : (red p m).lookup k = (m.lookup k).map (· % (p : Int)) := by
  induction m with
  | nil => rfl
  | cons r m ih =>
    rw [red, List.map_cons, List.lookup, List.lookup]
    cases (k == r.1)
    · exact ih
    · rfl
theorem mk_red {p : Nat} {m : Poly} : mk p (red p m) = mk p m := by
  unfold mk
  rw [red_keys]
  congr 2
  refine List.map_congr_left fun k _ => ?_
  rw [red_look]
  cases m.lookup k <;> simp
theorem ws_mk {W} {p : Nat} {m : Poly} (h : NK m) : ws W (mk p m) % (p : Int) = ws W m % (p : Int) := by
  unfold mk
  rw [ws_nz, ws_rev, ws_perm ((List.mergeSort_perm (m.map (·.1)) lexLe).map _)]
  have : (m.map (·.1)).map (fun k => (k, (m.lookup k).getD 0 % (p : Int))) = red p m := by
    unfold red
    rw [List.map_map]
    refine List.map_congr_left fun r hr => ?_
    simp only [Function.comp, look_own h r hr, Option.getD_some]
  rw [this, ws_red]
def Can (p n : Nat) (f : Poly) : Prop := (∀ r ∈ f, Pw p n r.1 ∧ 0 < r.2 ∧ r.2 < (p : Int)) ∧ f.Pairwise fun a b => lexLe a.1 b.1 = false
theorem lexLe_refl (a : List Int) : lexLe a a = true := by simpa using lexLe_total a a
theorem mk_can {p n : Nat} {m : Poly} (hp : 0 < p) (hk : ∀ r ∈ m, Pw p n r.1) (h : NK m) : Can p n (mk p m) := by
  refine ⟨fun r hr => ?_, ?_⟩
  · have h1 := mk_pol hp hk r hr
    have h2 : r.2 ≠ 0 := by
      unfold mk at hr
      simpa using (List.mem_filter.mp hr).2
    exact ⟨h1.1, by omega, h1.2.2⟩
  · unfold mk
    refine List.Pairwise.filter _ ?_
    rw [List.pairwise_reverse, List.pairwise_map]
    have h1 : ((m.map (·.1)).mergeSort lexLe).Pairwise fun a b => lexLe a b = true := List.pairwise_mergeSort lexLe_trans lexLe_total _
    have h2 : ((m.map (·.1)).mergeSort lexLe).Nodup := ((List.mergeSort_perm _ _).nodup_iff).mpr h
    refine List.Pairwise.imp₂ (fun {a b} (h3 : lexLe a b = true) (h4 : a ≠ b) => ?_) h1 h2
    cases h5 : lexLe b a
    · rfl
    · exact absurd (lexLe_anti a b h3 h5) h4
theorem Can.nk {p n : Nat} {f : Poly} (h : Can p n f) : NK f := by
  unfold NK
  rw [List.Nodup, List.pairwise_map]
  refine h.2.imp fun {a b} h3 e => ?_
  rw [e, lexLe_refl] at h3
  cases h3
theorem Can.pol {p n : Nat} {f : Poly} (h : Can p n f) : Pol p n f := fun r hr => by
  have := h.1 r hr
  exact ⟨this.1, by omega, this.2.2⟩
theorem srt_ext {α : Type} {R : α → α → Prop} (irr : ∀ a, ¬ R a a) (asy : ∀ a b, R a b → ¬ R b a) : ∀ f g : List α, f.Pairwise R → g.Pairwise R → (∀ r, r ∈ f ↔ r ∈ g) → f = g
  | [], [], _, _, _ => rfl
  | [], b :: g, _, _, h => by have := (h b).mpr (by simp); simp at this
  | a :: f, [], _, _, h => by have := (h a).mp (by simp); simp at this
  | a :: f, b :: g, hf, hg, h => by
    rw [List.pairwise_cons] at hf hg
    have e : a = b := by
      rcases List.mem_cons.mp ((h a).mp (by simp)) with e | e
      · exact e
      · rcases List.mem_cons.mp ((h b).mpr (by simp)) with e2 | e2
        · exact e2.symm
        · exact absurd (hg.1 a e) (asy _ _ (hf.1 b e2))
    subst e
    rw [srt_ext irr asy f g hf.2 hg.2 (fun r => ⟨fun hr => ?_, fun hr => ?_⟩ : ∀ r, r ∈ f ↔ r ∈ g)]
    · rcases List.mem_cons.mp ((h r).mp (List.mem_cons_of_mem _ hr)) with e | e
      · exact absurd (hf.1 r hr) (by rw [e]; exact irr _)
      · exact e
    · rcases List.mem_cons.mp ((h r).mpr (List.mem_cons_of_mem _ hr)) with e | e
      · exact absurd (hg.1 r hr) (by rw [e]; exact irr _)
      · exact e
def dl (k q : List Int) : Int := if q = k then 1 else 0
theorem cf_not {k : List Int} : ∀ {f : Poly}, k ∉ f.map (·.1) → ws (dl k) f = 0
  | [], _ => rfl
  | r :: f, h => by
    rw [List.map_cons, List.mem_cons, not_or] at h
    rw [ws_cons, cf_not h.2, dl, if_neg (fun e => h.1 e.symm)]; omega
theorem cf_mem : ∀ {f : Poly} {r : List Int × Int}, NK f → r ∈ f → ws (dl r.1) f = r.2
  | [], _, _, h => by simp at h
  | q :: f, r, h, hr => by
    obtain ⟨h1, h2⟩ := NK.cons.mp h
    rw [ws_cons]
    rcases List.mem_cons.mp hr with rfl | hr
    · rw [cf_not h1, dl, if_pos rfl]; omega
    · rw [cf_mem h2 hr, dl, if_neg (fun e : q.1 = r.1 => h1 (by rw [e]; exact List.mem_map_of_mem hr))]; omega
theorem can_sub {p n : Nat} {f g : Poly} (hf : Can p n f) (hg : Can p n g) (h : ∀ k, Pw p n k → ws (dl k) f % (p : Int) = ws (dl k) g % (p : Int)) : ∀ r ∈ f, r ∈ g := by
  intro r hr
  have h1 := hf.1 r hr
  have h2 := h r.1 h1.1
  rw [cf_mem hf.nk hr, Int.emod_eq_of_lt (by omega) (by omega)] at h2
  by_cases h3 : r.1 ∈ g.map (·.1)
  · obtain ⟨q, hq, e⟩ := List.mem_map.mp h3
    have h4 := hg.1 q hq
    rw [← e, cf_mem hg.nk hq, Int.emod_eq_of_lt (by omega) (by omega)] at h2
    have : r = q := Prod.ext e.symm h2
    rw [this]; exact hq
  · rw [cf_not h3] at h2
    simp at h2; omega
theorem can_ext {p n : Nat} {f g : Poly} (hf : Can p n f) (hg : Can p n g) (h : ∀ k, Pw p n k → ws (dl k) f % (p : Int) = ws (dl k) g % (p : Int)) : f = g :=
  srt_ext (R := fun a b : List Int × Int => lexLe a.1 b.1 = false) (fun a => by rw [lexLe_refl]; simp) (fun a b h1 h2 => by have := lexLe_total a.1 b.1; rw [h1, h2] at this; simp at this) f g hf.2 hg.2 fun r => ⟨can_sub hf hg h r, can_sub hg hf (fun k hk => (h k hk).symm) r⟩
theorem mem_pts {p : Nat} : ∀ {n : Nat} {k : List Int}, Pw p n k → k ∈ pts p n
  | 0, k, h => by
    have := h.1
    rw [List.length_eq_zero_iff] at this
    subst this; simp [pts]
  | n + 1, k, h => by
    obtain ⟨h1, h2⟩ := h
    have hne : k ≠ [] := fun e => by rw [e] at h1; simp at h1
    have h3 := List.dropLast_concat_getLast hne
    have h4 := h2 (k.getLast hne) (List.getLast_mem hne)
    rw [← h3]
    refine List.mem_flatMap.mpr ⟨k.dropLast, mem_pts ⟨by rw [List.length_dropLast]; omega, fun x hx => h2 x (List.dropLast_subset _ hx)⟩, List.mem_map.mpr ⟨(k.getLast hne).toNat, List.mem_range.mpr (by omega), ?_⟩⟩
    rw [Int.toNat_of_nonneg h4.1]
theorem nodup_le {α : Type} [DecidableEq α] : ∀ {l m : List α}, l.Nodup → (∀ x ∈ l, x ∈ m) → l.length ≤ m.length
  | [], m, _, _ => by simp
  | a :: l, m, h, hs => by
    rw [List.nodup_cons] at h
    have h1 := nodup_le (m := m.erase a) h.2 fun x hx => (List.mem_erase_of_ne (fun e => h.1 (by rw [← e]; exact hx))).mpr (hs x (List.mem_cons_of_mem _ hx))
    have h2 := List.length_erase_of_mem (hs a (by simp))
    have h3 : 0 < m.length := List.length_pos_of_mem (hs a (by simp))
    rw [List.length_cons]; omega
theorem Can.len {p n : Nat} {f : Poly} (h : Can p n f) : f.length ≤ (pts p n).length := by
  have := nodup_le (l := f.map (·.1)) (m := pts p n) (show (f.map (·.1)).Nodup from h.nk) fun k hk => by
    obtain ⟨r, hr, rfl⟩ := List.mem_map.mp hk
    exact mem_pts (h.1 r hr).1
  simpa using this
theorem Pw.zero {p n : Nat} (hp : 1 ≤ p) : Pw p n (List.replicate n 0) := ⟨by simp, fun x hx => by rw [List.eq_of_mem_replicate hx]; omega⟩
theorem one_nk {k : List Int} {c : Int} : NK [(k, c)] := by simp [NK]
theorem red_put {p : Nat} {m : Poly} {k : List Int} {v : Int} : put (red p m) k ((((red p m).lookup k).getD 0 + v) % (p : Int)) = red p (put m k ((m.lookup k).getD 0 + v)) := by
  have e : (((red p m).lookup k).getD 0 + v) % (p : Int) = ((m.lookup k).getD 0 + v) % (p : Int) := by
    rw [red_look]
    cases m.lookup k <;> simp
  rw [e]
  unfold put
  rw [red_look, Option.isSome_map]
  split
  · unfold red
    rw [List.map_map, List.map_map]
    refine List.map_congr_left fun r _ => ?_
    simp only [Function.comp]
    split <;> rfl
  · simp [red]
theorem red_len {p : Nat} {m : Poly} : (red p m).length = m.length := by simp [red]

theorem put_fresh {m : Poly} {k : List Int} {v : Int} (h : k ∉ m.map (·.1)) : put m k v = m ++ [(k, v)] := by
  rw [put, look_none.mpr h]; rfl
theorem nk_left {a b : Poly} (h : NK (a ++ b)) : NK a := by
  unfold NK at h ⊢
  rw [List.map_append, List.nodup_append] at h
  exact h.1
theorem nk_fresh {a b : Poly} {r} (h : NK (a ++ r :: b)) : r.1 ∉ a.map (·.1) := by
  unfold NK at h
  rw [List.map_append, List.map_cons, List.nodup_append] at h
  intro z
  exact h.2.2 r.1 z r.1 (by simp) rfl
theorem addM_id {f : Poly} (h : NK f) : addM f = f := by
  induction f using snoc_ind with
  | h0 => rfl
  | h1 l x ih =>
    have h1 := nk_fresh (a := l) (r := x) (b := []) h
    rw [addM_snoc, ih (nk_left h), put_fresh (by exact h1), look_none.mpr h1]
    simp
theorem putL_id : ∀ {f a : Poly}, NK (a ++ f) → putL a f = a ++ f
  | [], a, _ => by simp [putL]
  | r :: f, a, h => by
    have h1 := nk_fresh h
    have h2 : NK ((a ++ [(r.1, r.2)]) ++ f) := by rw [List.append_assoc]; exact h
    have h3 := putL_id h2
    rw [List.append_assoc] at h3
    show putL (put a r.1 r.2) f = _
    rw [put_fresh h1]; exact h3
def scal (f : Poly) (c : Int) : Poly := f.map fun r => (r.1, r.2 * c)
theorem scal_keys {f : Poly} {c : Int} : (scal f c).map (·.1) = f.map (·.1) := by simp [scal]
theorem scal_nk {f : Poly} {c : Int} (h : NK f) : NK (scal f c) := by unfold NK; rw [scal_keys]; exact h
theorem ws_scl {W} {c : Int} : ∀ {f : Poly}, ws W (scal f c) = c * ws W f
  | [] => by simp [scal, ws]
  | r :: f => by
    have := ws_scl (W := W) (c := c) (f := f)
    rw [scal, List.map_cons, ws_cons, ws_cons, ← scal, this, Int.mul_add]
    have e : r.2 * c * W r.1 = c * (r.2 * W r.1) := by ac_rfl
    exact congrArg (· + _) e
theorem scal_pw {p n : Nat} {f : Poly} {c : Int} (h : ∀ r ∈ f, Pw p n r.1) : ∀ r ∈ scal f c, Pw p n r.1 := fun r hr => by
  obtain ⟨q, hq, rfl⟩ := List.mem_map.mp hr
  exact h q hq
theorem scal_len {f : Poly} {c : Int} : (scal f c).length = f.length := by simp [scal]
def lscal (p : Nat) (f : Poly) (c : Int) : Poly := (f.map fun r => (r.1, r.2 * c % (p : Int))).filter fun r => r.2 ≠ 0
theorem lscal_can {p n : Nat} {f : Poly} {c : Int} (hp : 0 < p) (h : Can p n f) : Can p n (lscal p f c) := by
  refine ⟨fun r hr => ?_, ?_⟩
  · obtain ⟨h1, h2⟩ := List.mem_filter.mp hr
    obtain ⟨q, hq, rfl⟩ := List.mem_map.mp h1
    have h2 : q.2 * c % (p : Int) ≠ 0 := by simpa using h2
    have h3 := Int.emod_nonneg (q.2 * c) (show (p : Int) ≠ 0 by omega)
    have h4 := Int.emod_lt_of_pos (q.2 * c) (show (0 : Int) < (p : Int) by omega)
    exact ⟨(h.1 q hq).1, by show 0 < q.2 * c % (p : Int); omega, h4⟩
  · unfold lscal
    refine List.Pairwise.filter _ ?_
    rw [List.pairwise_map]
    exact h.2
theorem ws_red2 {W} {p : Nat} {c : Int} {f : Poly} : ws W (lscal p f c) % (p : Int) = ws W (scal f c) % (p : Int) := by
  unfold lscal
  rw [ws_nz]
  have : f.map (fun r => (r.1, r.2 * c % (p : Int))) = red p (scal f c) := by simp [red, scal]
  rw [this, ws_red]
theorem lscal_eq {p n : Nat} {f : Poly} {c : Int} (hp : 0 < p) (h : Can p n f) : lscal p f c = mk p (scal f c) :=
  can_ext (lscal_can hp h) (mk_can hp (scal_pw h.pol.pw) (scal_nk h.nk)) fun k _ => by rw [ws_red2, ws_mk (scal_nk h.nk)]
theorem add_can {p n : Nat} (hp : 0 < p) {f g : Poly} (hf : ∀ r ∈ f, Pw p n r.1) (hg : ∀ r ∈ g, Pw p n r.1) : Can p n (mk p (addM (f ++ g))) :=
  mk_can hp (addM_pw _ (fun r hr => by
    rcases List.mem_append.mp hr with hr | hr
    · exact hf r hr
    · exact hg r hr)) (addM_nk _)
theorem ws_add {W} {p : Nat} {f g : Poly} : ws W (mk p (addM (f ++ g))) % (p : Int) = (ws W f + ws W g) % (p : Int) := by
  rw [ws_mk (addM_nk _), ws_addM, ws_app]
theorem scl_can {p n : Nat} (hp : 0 < p) {f : Poly} {c : Int} (h : Can p n f) : Can p n (mk p (scal f c)) := mk_can hp (scal_pw h.pol.pw) (scal_nk h.nk)
def subP (p : Nat) (f g : Poly) : Poly := mk p (addM (f ++ mk p (scal g ((p : Int) - 1))))
theorem sub_can {p n : Nat} (hp : 0 < p) {f g : Poly} (hf : Can p n f) (hg : Can p n g) : Can p n (subP p f g) := add_can hp hf.pol.pw (scl_can hp hg).pol.pw
theorem ws_sub {W} {p n : Nat} {f g : Poly} (hg : Can p n g) : ws W (subP p f g) % (p : Int) = (ws W f - ws W g) % (p : Int) := by
  unfold subP
  rw [ws_add, em_add rfl (ws_mk (scal_nk hg.nk)), ws_scl]
  have : ws W f + ((p : Int) - 1) * ws W g = ws W f - ws W g + (p : Int) * ws W g := by rw [Int.sub_mul, Int.one_mul]; omega
  rw [this, Int.add_mul_emod_self_left]
theorem nil_can {p n : Nat} : Can p n [] := ⟨fun r hr => by simp at hr, .nil⟩
theorem sub_self {p n : Nat} (hp : 0 < p) {f : Poly} (hf : Can p n f) : subP p f f = [] :=
  can_ext (sub_can hp hf hf) nil_can fun k _ => by rw [ws_sub hf, Int.sub_self]; rfl

theorem zipD_ints (a b : List Int) : zipD [iD a, iD b] = some ((a.zip b).map fun q => .tup [.int q.1, .int q.2]) := by
  simp only [zipD, List.zip_map, List.map_map]; rfl
theorem mulD_t {n : Nat} (h : 1 ≤ n ∧ n ≤ 1000) : mulD (.tup [.int 0]) (nD n) = some (iD (List.replicate n 0)) := by
  have h1 : (1 : Int) ≤ (n : Int) := by omega
  have h2 : (n : Int) ≤ 1000 := by omega
  simp only [mulD, h1, h2, List.length_cons, List.length_nil, List.isEmpty_cons, Bool.not_false, decide_true, Bool.true_and, if_true, Int.toNat_natCast]
  rw [if_pos (by decide)]
  congr
  have : ∀ n, (List.replicate n [D.int 0]).flatten = (List.replicate n 0).map D.int := fun n => by
    induction n with
    | zero => rfl
    | succ n ih => rw [List.replicate_succ, List.replicate_succ, List.flatten_cons, ih]; rfl
  exact this n

theorem dput_new {m : Poly} {k : List Int} {v : Int} (h : k ∉ m.map (·.1)) : dput (m.map fun r => iD r.1) (m.map fun r => .int r.2) (iD k) (.int v) = ((m ++ [(k, v)]).map (fun r => iD r.1), (m ++ [(k, v)]).map fun r => .int r.2) := by
  rw [dput_enc, put, look_none.mpr h]; rfl
theorem dcRun_red {p : Nat} (hp : 2 ≤ p) {ns : List Str} {m0 : Poly} : ∀ (b a : Poly), NK (a ++ b) → dcRun true (gD (.t [(.n 3), (.n 4)])) (var 3) (op2 modD (var 4) (fld ["Space"] "prime" (var 0))) [.val (spcD p ns), .val (dcD m0), .no, .no, .no] (b.map rowD) ((red p a).map fun r => iD r.1) ((red p a).map fun r => .int r.2) = some ((red p (a ++ b)).map (fun r => iD r.1), (red p (a ++ b)).map fun r => .int r.2)
  | [], a, _ => by rw [List.append_nil, List.map_nil, dcRun]
  | r :: b, a, h => by
    have h2 : NK ((a ++ [r]) ++ b) := by rw [List.append_assoc]; exact h
    have ih := dcRun_red hp (ns := ns) (m0 := m0) b (a ++ [r]) h2
    have h3 : r.1 ∉ (red p a).map (·.1) := by
      rw [red_keys]
      unfold NK at h
      rw [List.map_append, List.map_cons, List.nodup_append] at h
      intro z
      exact h.2.2 r.1 z r.1 (by simp) rfl
    have h4 : red p a ++ [(r.1, r.2 % (p : Int))] = red p (a ++ [r]) := by simp [red]
    rw [List.map_cons]
    unfold dcRun
    simp_arith [sp_prime, dput_new h3, h4, keyD_iD]
    rw [ih, List.append_assoc]; rfl
theorem from_eq {p : Nat} (hp : 2 ≤ p) {ns : List Str} {m : Poly} (hl : m.length ≤ 100000) (hk : ∀ r ∈ m, r.1 ≠ []) (hn : NK m) : F_from_numbers [spcD p ns, dcD m] = some (pD (mk p m)) := by
  have e0 := sortKR_g (m := red p m) (by rw [red_len]; omega) (fun r hr => by
    obtain ⟨q, hq, rfl⟩ := List.mem_map.mp hr
    exact hk q hq)
  rw [red_keys] at e0
  have e1 : itemsD (dcD m) = some (m.map rowD) := by
    simp only [itemsD, dcD, List.zip_map', List.map_map]; rfl
  have e2 := dcRun_red hp (ns := ns) (m0 := m) m [] hn
  rw [List.nil_append] at e2
  have e2 : dcRun true (gD (.t [(.n 3), (.n 4)])) (var 3) (op2 modD (var 4) (fld ["Space"] "prime" (var 0))) [.val (spcD p ns), .val (dcD m), .no, .no, .no] (m.map rowD) [] [] = _ := e2
  generalize hK : (m.map (·.1)).mergeSort lexLe = K at e0
  have hKl : K.length = m.length := by rw [← hK]; simp
  have hKm : ∀ k ∈ K, k ∈ (red p m).map (·.1) := fun k h => by
    rw [red_keys]; rw [← hK] at h; exact (List.mergeSort_perm _ _).mem_iff.mp h
  have e3 : lcRun (gD (.n 3)) (cmp (neg eqD) (op2 getK (var 2) (var 3)) (cst (.int 0))) (tupE (aC (var 3) (aC (op2 getK (var 2) (var 3)) aN))) [.val (spcD p ns), .val (dcD m), .val (dcD (red p m)), .no, .no] (K.reverse.map iD) = some (((K.reverse.filter fun k => decide (((red p m).lookup k).getD 0 ≠ 0)).map fun k => (k, ((red p m).lookup k).getD 0)).map rowD) :=
    lcRun_f (enc := iD) (enc' := rowD) (fun k => decide (((red p m).lookup k).getD 0 ≠ 0)) (fun k => (k, ((red p m).lookup k).getD 0)) fun k hk => by
      obtain ⟨v, h1, _⟩ := lookup_mem (hKm k (List.mem_reverse.mp hk))
      by_cases h : v = 0
      · simp_arith [getK_m, h1, h]
      · have h2 : v = 0 ↔ False := iff_false_intro h
        simp_arith [getK_m, h1, h2]
  have e4 : (K.reverse.filter fun k => decide (((red p m).lookup k).getD 0 ≠ 0)).map (fun k => (k, ((red p m).lookup k).getD 0)) = mk p m := by
    unfold mk
    rw [hK, ← List.map_reverse, List.filter_map]
    have : ∀ k, ((red p m).lookup k).getD 0 = (m.lookup k).getD 0 % (p : Int) := fun k => by
      rw [red_look]; cases m.lookup k <;> simp
    simp only [this]; rfl
  have e5 : D.dic true ((red p m).map fun r => iD r.1) ((red p m).map fun r => .int r.2) = dcD (red p m) := rfl
  unfold F_from_numbers
  simp_arith [e1, e2, e5, e0, e3, e4, List.length_reverse]

theorem zero_eq {p : Nat} {ns : List Str} (hn : 1 ≤ ns.length ∧ ns.length ≤ 1000) : F_Space_zero [spcD p ns] = some (iD (List.replicate ns.length 0)) := by
  unfold F_Space_zero
  simp -implicitDefEqProofs (disch := first | omega | (simp only [List.length_map, List.length_cons, List.length_nil, List.length_append, List.length_range, List.length_replicate]; omega)) only [sq_e, sqK_nx, sqK_ret, sqK_bk, sqK_ct, skip_e, setE_e, newE_e, rt_e, brk_e, cnt_e, ifS_e, ifK_t, ifK_f, ifX_t, ifX_f, ifT_t, ifT_f, fncK_ret, fncK_nx, ctK_nx, ctK_ct, ctK_ret, lcK_e, lstK_e, tupK_e, tupK_f, tupK_cat, ftupD_lst, ftupE_e, lenD_f, getD_f, addD_ff, blK_e, ovK_e, vaK_e, ife_e, var_e, ovar_e, cst_e, op1_e, op2_e, op3_e, aN_e, aC_e, tupE_e, lstE_e, cal_e, f1_e, cmp_e, flip_e, neg_e, chn_e, boo_e, tes_e, ff_e, tt_e, andT_e, orT_e, notT_e, fX_e, tX_e, andV_e, orV_e, notV_e, isN_e, yes_e, asg_e, gD_n, gD_t, gDs_n, gDs_c, frz_e, mov_e, movO_e, forE_e, iLst_e, iTp_e, iRng_e, one1_c, two2_c, iZp_e, lcE_e, lc2E_e, wip_n, wip_c, noOwn_n, noOwn_c, noO_no, noO_val, fnc_e, ini_e, met_e, fld_e, slE_e, prK_e, prt_e, prN_e, dic1_e, appK_e, app_e, extK_e, ext_e, stK_e, drpA_e, drpK_e, addD_int, addD_tup, addD_lst, subD_int, modD_int, divD_int, intD_int, intD_bl, ltD_int, leD_int, eqD_int, eqD_bl, lenD_lst, lenD_tup, lenD_scr, tupD_lst, listD_lst, listD_tup, revL_lst, isBool_bl, max2_int, isBD_bl, revT_tup, iEnum_e, iItm_e, iSq_e, isC_i, isLst_l, addI_int, subI_int, iZm_e, seqK_t, seqK_l, dcE_e, getD_l, getD_t, getD_s, rngL_n, rngL_i, rngL_2, sumL_ints, sumT_tup, sumT_lst, allL_bls, anyL_bls, lcT_t, lcT_f, set_0, set_s, szL_le, szL_lt, Option.bind_some, Option.map_some, List.map_cons, List.map_nil, List.length_cons, List.length_nil, List.length_map, List.length_range, List.getElem?_cons_zero, List.getElem?_cons_succ, List.getElem?_map, List.replicate_succ, List.replicate_zero, List.cons_append, List.nil_append, if_true, if_false, ite_true, ite_false, Bool.and_true, Bool.true_and, Bool.and_self, and_true, true_and, and_self, decide_true, decide_false, Bool.not_true, Bool.not_false, eq_self, Int.toNat_natCast, Int.toNat_zero, Nat.reduceAdd, Nat.reduceSub, Nat.reduceLeDiff, Nat.reduceMul, Nat.reduceEqDiff, Int.reduceToNat, Nat.zero_add, Nat.reduceLT, Int.reduceLT, Int.reduceLE, Int.reduceEq, Int.reduceNe, Int.reduceMul, Int.reduceAdd, Int.reducePow, Bool.false_eq_true, reduceCtorEq, not_true_eq_false, not_false_eq_true, ne_eq, Option.getD_some, if_pos, List.length_append, List.length_replicate, msI, maI, msT, maT, msP, maR, mulD_t, sp_count]
theorem const_eq {p : Nat} (hp : 2 ≤ p) {ns : List Str} (hn : 1 ≤ ns.length ∧ ns.length ≤ 1000) (k : Int) : F_constant [spcD p ns, .int k] = some (pD (mk p [(List.replicate ns.length 0, k)])) := by
  have e1 := from_eq hp (ns := ns) (m := [(List.replicate ns.length 0, k)]) (by simp) (by
    intro r hr
    rw [List.mem_singleton.mp hr]
    exact (Pw.zero (p := p) (by omega)).ne hn.1) one_nk
  have e2 := zero_eq (p := p) (ns := ns) hn
  have m1 : metD [("Space", F_Space_zero)] "zero" [] (spcD p ns) = F_Space_zero [spcD p ns] := by
    simp only [metD, spcD]; rw [if_neg (by decide)]; rfl
  unfold F_constant
  simp only [dcD, List.map_cons, List.map_nil] at e1
  simp_arith [m1, e2, keyD_iD, e1]

def wt (p : Nat) (a x : Int) : Int := if a = 0 then (if x = 0 then 1 else 0) else -(x ^ (p - 1 - a.toNat))
def wtL (p : Nat) (l : List (Int × Int)) : Int := l.foldl (fun s q => s * wt p q.1 q.2) 1
def WT (p : Nat) (k x : List Int) : Int := wtL p (k.zip x)
theorem WT_snoc {p : Nat} {k x : List Int} {a b : Int} (h : k.length = x.length) : WT p (k ++ [a]) (x ++ [b]) = WT p k x * wt p a b := by
  unfold WT; rw [List.zip_append h]; simp [wtL]
theorem mon_snoc {k x : List Int} {a b : Int} (h : k.length = x.length) : mon (k ++ [a]) (x ++ [b]) = mon k x * b ^ a.toNat := by
  unfold mon; rw [List.zip_append h, List.zip_cons_cons, List.zip_nil_left, monL_snoc]
theorem wt_orth : ∀ p ∈ [2, 3, 5, 7], ∀ a < p, ∀ b < p, ((List.range p).map fun j : Nat => wt p (a : Int) (j : Int) * (j : Int) ^ b).sum % (p : Int) = if a = b then 1 else 0 := by decide
def PP (p : Nat) : Prop := p = 2 ∨ p = 3 ∨ p = 5 ∨ p = 7
theorem PP.mem {p : Nat} (h : PP p) : p ∈ [2, 3, 5, 7] := by rcases h with rfl | rfl | rfl | rfl <;> decide
theorem PP.bd {p : Nat} (h : PP p) : 2 ≤ p ∧ p ≤ 7 := by rcases h with rfl | rfl | rfl | rfl <;> decide
theorem wt_orthI {p : Nat} (h : PP p) {a b : Int} (ha : 0 ≤ a ∧ a < (p : Int)) (hb : 0 ≤ b ∧ b < (p : Int)) : ((List.range p).map fun j : Nat => wt p a (j : Int) * (j : Int) ^ b.toNat).sum % (p : Int) = if a = b then 1 else 0 := by
  obtain ⟨a', rfl⟩ := Int.eq_ofNat_of_zero_le ha.1
  obtain ⟨b', rfl⟩ := Int.eq_ofNat_of_zero_le hb.1
  have h1 := wt_orth p h.mem a' (by omega) b' (by omega)
  rw [Int.toNat_natCast, h1]
  by_cases e : a' = b'
  · rw [if_pos e, if_pos (by omega)]
  · rw [if_neg e, if_neg (by omega)]
theorem sum_mulL {α : Type} {c : Int} {F : α → Int} : ∀ {l : List α}, (l.map fun x => c * F x).sum = c * (l.map F).sum
  | [] => by simp
  | a :: l => by rw [List.map_cons, List.map_cons, List.sum_cons, List.sum_cons, sum_mulL, Int.mul_add]
theorem sum_mulR {α : Type} {c : Int} {F : α → Int} : ∀ {l : List α}, (l.map fun x => F x * c).sum = (l.map F).sum * c
  | [] => by simp
  | a :: l => by rw [List.map_cons, List.map_cons, List.sum_cons, List.sum_cons, sum_mulR, Int.add_mul]
theorem sum_add {α : Type} {F G : α → Int} : ∀ {l : List α}, (l.map fun x => F x + G x).sum = (l.map F).sum + (l.map G).sum
  | [] => by simp
  | a :: l => by
    rw [List.map_cons, List.map_cons, List.map_cons, List.sum_cons, List.sum_cons, List.sum_cons, sum_add]; omega
theorem sum_grow {p : Nat} {F : List Int → Int} : ∀ {l : List (List Int)}, ((grow p l).map F).sum = (l.map fun y => ((List.range p).map fun j : Nat => F (y ++ [(j : Int)])).sum).sum
  | [] => by simp [grow]
  | y :: l => by
    have := sum_grow (p := p) (F := F) (l := l)
    unfold grow at this ⊢
    rw [List.flatMap_cons, List.map_append, List.sum_append, this, List.map_cons, List.sum_cons, List.map_map]
    rfl
theorem sum_cong {α : Type} {F G : α → Int} {l : List α} (h : ∀ x ∈ l, F x = G x) : (l.map F).sum = (l.map G).sum := by
  rw [List.map_congr_left h]
theorem sum_congM {α : Type} {n : Int} {F G : α → Int} : ∀ {l : List α}, (∀ x ∈ l, F x % n = G x % n) → (l.map F).sum % n = (l.map G).sum % n
  | [], _ => rfl
  | a :: l, h => by
    rw [List.map_cons, List.map_cons, List.sum_cons, List.sum_cons]
    exact em_add (h a (by simp)) (sum_congM fun x hx => h x (List.mem_cons_of_mem _ hx))
theorem snoc_eq {n : Nat} {k : List Int} (h : k.length = n + 1) : ∃ q a, k = q ++ [a] ∧ q.length = n := by
  have hne : k ≠ [] := fun e => by rw [e] at h; simp at h
  exact ⟨k.dropLast, k.getLast hne, (List.dropLast_concat_getLast hne).symm, by rw [List.length_dropLast]; omega⟩
theorem Pw.snoc {p n : Nat} {q : List Int} {a : Int} (h : Pw p (n + 1) (q ++ [a])) : Pw p n q ∧ 0 ≤ a ∧ a < (p : Int) := by
  have h1 := h.1
  rw [List.length_append, List.length_singleton] at h1
  exact ⟨⟨by omega, fun x hx => h.2 x (by simp [hx])⟩, h.2 a (by simp)⟩
theorem orth {p : Nat} (h : PP p) : ∀ (n : Nat) (k q : List Int), Pw p n k → Pw p n q → ((pts p n).map fun x => WT p k x * mon q x).sum % (p : Int) = if k = q then 1 else 0
  | 0, k, q, hk, hq => by
    have h1 := List.length_eq_zero_iff.mp hk.1
    have h2 := List.length_eq_zero_iff.mp hq.1
    subst h1; subst h2
    have := h.bd
    rw [if_pos rfl]
    show (1 * 1 + 0) % (p : Int) = 1
    exact Int.emod_eq_of_lt (by omega) (by omega)
  | n + 1, k, q, hk, hq => by
    obtain ⟨k, a, rfl, hkl⟩ := snoc_eq hk.1
    obtain ⟨q, b, rfl, hql⟩ := snoc_eq hq.1
    obtain ⟨hk, ha⟩ := hk.snoc
    obtain ⟨hq, hb⟩ := hq.snoc
    have e : ((pts p (n + 1)).map fun x => WT p (k ++ [a]) x * mon (q ++ [b]) x).sum = ((pts p n).map fun x => WT p k x * mon q x).sum * ((List.range p).map fun j : Nat => wt p a (j : Int) * (j : Int) ^ b.toNat).sum := by
      rw [pts, sum_grow, ← sum_mulR]
      refine sum_cong fun y hy => ?_
      have hy1 := (pts_pw y hy).1
      rw [← sum_mulL]
      refine sum_cong fun j _ => ?_
      rw [WT_snoc (by omega), mon_snoc (by omega)]
      ac_rfl
    rw [e, Int.mul_emod, orth h n k q hk hq, wt_orthI h ha hb]
    have hp := h.bd
    have e1 : (1 : Int) % (p : Int) = 1 := Int.emod_eq_of_lt (by omega) (by omega)
    by_cases e2 : k = q
    · by_cases e3 : a = b
      · subst e2; subst e3; simp [e1]
      · have e4 : ¬ (k ++ [a] = q ++ [b]) := by simpa using fun _ => e3
        rw [if_neg e3, if_neg e4]; simp
    · have e4 : ¬ (k ++ [a] = q ++ [b]) := by simpa using fun z => absurd z e2
      rw [if_neg e2, if_neg e4]; simp
def ev (f : Poly) (x : List Int) : Int := ws (fun k => mon k x) f
theorem extract {p n : Nat} (h : PP p) {k : List Int} (hk : Pw p n k) : ∀ {f : Poly}, (∀ r ∈ f, Pw p n r.1) → ((pts p n).map fun x => WT p k x * ev f x).sum % (p : Int) = ws (dl k) f % (p : Int)
  | [], _ => by
    have : ((pts p n).map fun x => WT p k x * ev [] x).sum = ((pts p n).map fun x => 0 * WT p k x).sum := sum_cong fun x _ => by simp [ev, ws]
    rw [this, sum_mulL]; simp [ws]
  | r :: f, hf => by
    have h1 : ((pts p n).map fun x => WT p k x * ev (r :: f) x).sum = r.2 * ((pts p n).map fun x => WT p k x * mon r.1 x).sum + ((pts p n).map fun x => WT p k x * ev f x).sum := by
      rw [← sum_mulL, ← sum_add]
      refine sum_cong fun x _ => ?_
      rw [ev, ws_cons, Int.mul_add, ← ev]
      congr 1
      ac_rfl
    rw [h1, ws_cons]
    refine em_add (em_mul rfl ?_) (extract h hk fun r hr => hf r (List.mem_cons_of_mem _ hr))
    rw [orth h n k r.1 hk (hf r (by simp)), dl]
    have hp := h.bd
    have e1 : (1 : Int) % (p : Int) = 1 := Int.emod_eq_of_lt (by omega) (by omega)
    by_cases e2 : k = r.1
    · rw [if_pos e2, if_pos e2.symm, e1]
    · rw [if_neg e2, if_neg (fun z => e2 z.symm)]; simp
theorem uniq {p n : Nat} (h : PP p) {f g : Poly} (hf : Can p n f) (hg : Can p n g) (e : ∀ x ∈ pts p n, ev f x % (p : Int) = ev g x % (p : Int)) : f = g :=
  can_ext hf hg fun k hk => by
    rw [← extract h hk hf.pol.pw, ← extract h hk hg.pol.pw]
    exact sum_congM fun x hx => em_mul rfl (e x hx)
theorem Sh.pp {p n : Nat} (h : Sh p n) : PP p := h.most.1
theorem Sh.small {p n : Nat} (h : Sh p n) : (pts p n).length ≤ 49 := by
  rw [pts_len]
  have : ∀ s ∈ shapes, s.1 ^ s.2 ≤ 49 := by decide
  exact this _ h

def less (p : Nat) (e : Int) : Int := if e < (p : Int) then e else (e - 1) % ((p : Int) - 1) + 1
theorem less_bd {p : Nat} (hp : 2 ≤ p) {e : Int} (he : 0 ≤ e) : 0 ≤ less p e ∧ less p e < (p : Int) := by
  unfold less
  split
  · exact ⟨he, by assumption⟩
  · have h1 := Int.emod_nonneg (e - 1) (show ((p : Int) - 1) ≠ 0 by omega)
    have h2 := Int.emod_lt_of_pos (e - 1) (show (0 : Int) < (p : Int) - 1 by omega)
    omega
theorem less_powT : ∀ p ∈ ([2, 3, 5, 7] : List Nat), ∀ y < p, ∀ e < (13 : Nat), (y : Int) ^ (less p (e : Int)).toNat % (p : Int) = (y : Int) ^ e % (p : Int) := by decide
theorem less_pow {p : Nat} (h : PP p) {y e : Int} (hy : 0 ≤ y ∧ y < (p : Int)) (he : 0 ≤ e ∧ e < 13) : y ^ (less p e).toNat % (p : Int) = y ^ e.toNat % (p : Int) := by
  obtain ⟨y', rfl⟩ := Int.eq_ofNat_of_zero_le hy.1
  obtain ⟨e', rfl⟩ := Int.eq_ofNat_of_zero_le he.1
  have h1 := less_powT p h.mem y' (by omega) e' (by omega)
  rw [Int.toNat_natCast]; exact h1
def kadd (p : Nat) (a b : List Int) : List Int := (a.zip b).map fun q => less p (q.1 + q.2)
def prodL (p : Nat) (f g : Poly) : Poly := f.flatMap fun r => g.map fun s => (kadd p r.1 s.1, r.2 * s.2)
theorem kadd_pw {p n : Nat} (hp : 2 ≤ p) {a b : List Int} (ha : Pw p n a) (hb : Pw p n b) : Pw p n (kadd p a b) := by
  refine ⟨by simp [kadd, ha.1, hb.1], fun x hx => ?_⟩
  obtain ⟨q, hq, rfl⟩ := List.mem_map.mp hx
  have h1 := ha.2 _ (List.of_mem_zip (a := q.1) (b := q.2) hq).1
  have h2 := hb.2 _ (List.of_mem_zip (a := q.1) (b := q.2) hq).2
  exact less_bd hp (by omega)
theorem prodL_pw {p n : Nat} (hp : 2 ≤ p) {f g : Poly} (hf : ∀ r ∈ f, Pw p n r.1) (hg : ∀ r ∈ g, Pw p n r.1) : ∀ r ∈ prodL p f g, Pw p n r.1 := fun r hr => by
  obtain ⟨a, ha, h2⟩ := List.mem_flatMap.mp hr
  obtain ⟨b, hb, rfl⟩ := List.mem_map.mp h2
  exact kadd_pw hp (hf a ha) (hg b hb)
theorem prodL_len {p : Nat} {g : Poly} : ∀ {f : Poly}, (prodL p f g).length = f.length * g.length
  | [] => by simp [prodL]
  | r :: f => by
    have := prodL_len (p := p) (g := g) (f := f)
    unfold prodL at this ⊢
    rw [List.flatMap_cons, List.length_append, this, List.length_map, List.length_cons, Nat.add_mul]; omega
theorem prodL_app {p : Nat} {f f' g : Poly} : prodL p (f ++ f') g = prodL p f g ++ prodL p f' g := by simp [prodL]
theorem prodL_one {p : Nat} {r} {g : Poly} : prodL p [r] g = g.map fun s => (kadd p r.1 s.1, r.2 * s.2) := by simp [prodL]
theorem ws_scal {p : Nat} {W : List Int → Int} {r : List Int × Int} {K : List Int → List Int} : ∀ {g : Poly}, (∀ s ∈ g, W (K s.1) % (p : Int) = W r.1 * W s.1 % (p : Int)) → ws W (g.map fun s => (K s.1, r.2 * s.2)) % (p : Int) = r.2 * W r.1 * ws W g % (p : Int)
  | [], _ => by simp [ws]
  | s :: g, h => by
    rw [List.map_cons, ws_cons, ws_cons, Int.mul_add]
    refine em_add ?_ (ws_scal fun s hs => h s (List.mem_cons_of_mem _ hs))
    have h1 := em_mul (a := r.2 * s.2) (b := r.2 * s.2) rfl (h s (by simp))
    rw [h1]
    congr 1
    ac_rfl
theorem ws_prodL {p : Nat} {W : List Int → Int} {g : Poly} : ∀ {f : Poly}, (∀ r ∈ f, ∀ s ∈ g, W (kadd p r.1 s.1) % (p : Int) = W r.1 * W s.1 % (p : Int)) → ws W (prodL p f g) % (p : Int) = ws W f * ws W g % (p : Int)
  | [], _ => by simp [ws, prodL]
  | r :: f, h => by
    have e : prodL p (r :: f) g = prodL p [r] g ++ prodL p f g := by rw [← prodL_app]; rfl
    rw [e, ws_app, ws_cons, Int.add_mul, prodL_one]
    exact em_add (ws_scal (h r (by simp))) (ws_prodL fun r hr => h r (List.mem_cons_of_mem _ hr))
theorem monL_cons {q} {l} : monL (q :: l) = q.2 ^ q.1.toNat * monL l := by
  have : ∀ (l : List (Int × Int)) (a : Int), l.foldl (fun a q => a * q.2 ^ q.1.toNat) a = a * monL l := fun l => by
    induction l with
    | nil => intro a; simp [monL]
    | cons q l ih =>
      intro a
      have e2 : monL (q :: l) = q.2 ^ q.1.toNat * monL l := by rw [monL, List.foldl_cons, ih, Int.one_mul]
      rw [List.foldl_cons, ih, e2, Int.mul_assoc]
  rw [monL, List.foldl_cons, this, Int.one_mul]
theorem mon_cons {a x : Int} {k y : List Int} : mon (a :: k) (x :: y) = x ^ a.toNat * mon k y := by
  unfold mon; rw [List.zip_cons_cons, monL_cons]
theorem Pw.cons {p n : Nat} {a : Int} {k : List Int} (h : Pw p (n + 1) (a :: k)) : (0 ≤ a ∧ a < (p : Int)) ∧ Pw p n k := by
  have h1 := h.1
  rw [List.length_cons] at h1
  exact ⟨h.2 a (by simp), ⟨by omega, fun x hx => h.2 x (by simp [hx])⟩⟩
theorem mon_kadd {p : Nat} (h : PP p) : ∀ {n : Nat} {a b x : List Int}, Pw p n a → Pw p n b → Pw p n x → mon (kadd p a b) x % (p : Int) = mon a x * mon b x % (p : Int)
  | 0, a, b, x, ha, hb, hx => by
    have h1 := List.length_eq_zero_iff.mp ha.1
    have h2 := List.length_eq_zero_iff.mp hb.1
    subst h1; subst h2
    rfl
  | n + 1, [], _, _, ha, _, _ => by have := ha.1; simp at this
  | n + 1, _ :: _, [], _, _, hb, _ => by have := hb.1; simp at this
  | n + 1, _ :: _, _ :: _, [], _, _, hx => by have := hx.1; simp at this
  | n + 1, a :: k, b :: l, x :: y, ha, hb, hx => by
    obtain ⟨a1, a2⟩ := ha.cons
    obtain ⟨b1, b2⟩ := hb.cons
    obtain ⟨x1, x2⟩ := hx.cons
    have e : kadd p (a :: k) (b :: l) = less p (a + b) :: kadd p k l := rfl
    have hp := h.bd
    rw [e, mon_cons, mon_cons, mon_cons]
    have h1 := em_mul (less_pow h x1 (e := a + b) (by omega)) (mon_kadd h a2 b2 x2)
    rw [h1, Int.toNat_add a1.1 b1.1, Int.pow_add]
    congr 1
    ac_rfl
theorem ev_mk {p : Nat} {m : Poly} {x : List Int} (h : NK m) : ev (mk p m) x % (p : Int) = ev m x % (p : Int) := ws_mk h
theorem ev_times {p n : Nat} (h : PP p) {f g : Poly} (hf : ∀ r ∈ f, Pw p n r.1) (hg : ∀ r ∈ g, Pw p n r.1) {x : List Int} (hx : Pw p n x) : ev (mk p (addM (prodL p f g))) x % (p : Int) = ev f x * ev g x % (p : Int) := by
  rw [ev_mk (addM_nk _), ev, ws_addM]
  exact ws_prodL fun r hr s hs => mon_kadd h (hf r hr) (hg s hs) hx
theorem times_can {p n : Nat} (hp : 2 ≤ p) {f g : Poly} (hf : ∀ r ∈ f, Pw p n r.1) (hg : ∀ r ∈ g, Pw p n r.1) : Can p n (mk p (addM (prodL p f g))) :=
  mk_can (by omega) (addM_pw _ (prodL_pw hp hf hg)) (addM_nk _)
def oneP (p n : Nat) : Poly := mk p [(List.replicate n 0, 1)]
theorem one_can {p n : Nat} (hp : 2 ≤ p) : Can p n (oneP p n) := mk_can (by omega) (fun r hr => by rw [List.mem_singleton.mp hr]; exact Pw.zero (by omega)) one_nk
theorem mon_zero : ∀ {n : Nat} {x : List Int}, mon (List.replicate n 0) x = 1
  | 0, _ => rfl
  | n + 1, [] => rfl
  | n + 1, a :: x => by rw [List.replicate_succ, mon_cons, mon_zero]; simp
theorem one_eq {p n : Nat} (hp : 2 ≤ p) : oneP p n = [(List.replicate n 0, 1)] := by
  have : (1 : Int) % (p : Int) = 1 := one_mod hp
  simp [oneP, mk, List.lookup, this]
theorem ev_one {p n : Nat} (hp : 2 ≤ p) {x : List Int} : ev (oneP p n) x = 1 := by
  rw [one_eq hp, ev, ws_cons, ws_nil, mon_zero]; rfl
def powP (p n : Nat) (f : Poly) : Nat → Poly
  | 0 => oneP p n
  | t + 1 => mk p (addM (prodL p (powP p n f t) f))
theorem powP_can {p n : Nat} (hp : 2 ≤ p) {f : Poly} (hf : ∀ r ∈ f, Pw p n r.1) : ∀ t, Can p n (powP p n f t)
  | 0 => one_can hp
  | t + 1 => times_can hp (powP_can hp hf t).pol.pw hf
theorem ev_pow {p n : Nat} (h : PP p) {f : Poly} (hf : ∀ r ∈ f, Pw p n r.1) {x : List Int} (hx : Pw p n x) : ∀ t, ev (powP p n f t) x % (p : Int) = ev f x ^ t % (p : Int)
  | 0 => by rw [powP, ev_one h.bd.1, Int.pow_zero]
  | t + 1 => by
    rw [powP, ev_times h (powP_can h.bd.1 hf t).pol.pw hf hx, Int.pow_succ]
    exact em_mul (ev_pow h hf hx t) rfl
theorem lessened_eq {p : Nat} (hp : 2 ≤ p) (e : Int) : F_lessened [nD p, .int e] = some (.int (less p e)) := by
  unfold F_lessened less
  by_cases h : e < (p : Int)
  · simp_arith [h]
  · have h2 : e < (p : Int) ↔ False := iff_false_intro h
    simp_arith [h2]
theorem timesI_eq {p n : Nat} (h : PP p) {ns : List Str} {f g : Poly} {d1 d2 : D} (hd1 : tupK d1 = some (f.map rowD)) (hd2 : tupK d2 = some (g.map rowD)) (hn : 1 ≤ n ∧ n ≤ 10) (hf : Pol p n f) (hg : Pol p n g) (hfl : f.length ≤ 100) (hgl : g.length ≤ 100) : F_times [spcD p ns, d1, d2] = some (pD (mk p (addM (prodL p f g)))) := by
  have hp := h.bd
  unfold F_times
  simp_arith [hd1]
  generalize hl : loop _ _ _ _ = o
  obtain ⟨e, rfl, s4, s5, s6, s7, s8, rfl⟩ := loop_p hl (fun l env => ∃ s4 s5 s6 s7 s8, env = [.val (spcD p ns), .val d1, .val d2, .own (dcD (red p (addM (prodL p l g)))), s4, s5, s6, s7, s8, .no, .no])
    ⟨_, _, _, _, _, rfl⟩ (by
      rintro l r e hr hlt ⟨s4, s5, s6, s7, s8, rfl⟩
      have hr2 := hf r hr
      have hll := prodL_len (p := p) (f := l) (g := g)
      have hle : l.length * g.length ≤ 100 * 100 := Nat.mul_le_mul (by omega) hgl
      simp_arith [hd2]
      generalize hl : loop _ _ _ _ = o
      obtain ⟨e, rfl, s6, s7, s8, rfl⟩ := loop_p hl (fun l2 env => ∃ s6 s7 s8, env = [.val (spcD p ns), .val d1, .val d2, .own (dcD (red p (addM (prodL p l g ++ l2.map fun s => (kadd p r.1 s.1, r.2 * s.2))))), .val (iD r.1), .val (.int r.2), s6, s7, s8, .no, .no])
        ⟨_, _, _, by rw [List.map_nil, List.append_nil]⟩ (by
          rintro l2 s e hs hlt2 ⟨s6, s7, s8, rfl⟩
          have hs2 := hg s hs
          have hz : (r.1.zip s.1).length ≤ 10 := by rw [List.length_zip, hr2.1.1, hs2.1.1]; omega
          have e1 : lcRun (gD (.t [(.n 9), (.n 10)])) yes (cal F_lessened (aC (fld ["Space"] "prime" (var 0)) (aC (op2 addD (var 9) (var 10)) aN))) [.val (spcD p ns), .val d1, .val d2, .own (dcD (red p (addM (prodL p l g ++ l2.map fun s => (kadd p r.1 s.1, r.2 * s.2))))), .val (iD r.1), .val (.int r.2), .val (iD s.1), .val (.int s.2), s8, .no, .no] ((r.1.zip s.1).map fun q => .tup [.int q.1, .int q.2]) = some ((kadd p r.1 s.1).map .int) :=
            lcRun_m (fun q : Int × Int => less p (q.1 + q.2)) fun q hq => by
              have h1 := lessened_eq hp.1 (q.1 + q.2)
              simp_arith [sp_prime, h1]
          have hm := addM_len (prodL p l g ++ l2.map fun s => (kadd p r.1 s.1, r.2 * s.2))
          rw [List.length_append, List.length_map, hll] at hm
          have hm2 := red_len (p := p) (m := addM (prodL p l g ++ l2.map fun s => (kadd p r.1 s.1, r.2 * s.2)))
          have hr4 : -18446744073709551616 < r.2 ∧ r.2 < 18446744073709551616 := by omega
          refine stp (by simp_arith [zipD_ints, e1, imm_e, getK2_m, imm_int, sp_prime, stK_m, red_put]; rfl) ?_
          exact ⟨_, _, _, by rw [List.map_append, ← List.append_assoc, List.map_cons, List.map_nil, addM_snoc]⟩)
      refine stp (by simp_arith []; rfl) ?_
      exact ⟨_, _, _, _, _, by rw [prodL_app, prodL_one]⟩)
  have h1 := addM_len (prodL p f g)
  have hll := prodL_len (p := p) (f := f) (g := g)
  have hle : f.length * g.length ≤ 100 * 100 := Nat.mul_le_mul hfl hgl
  have e1 := from_eq hp.1 (ns := ns) (m := red p (addM (prodL p f g))) (by rw [red_len]; omega) (fun r hr => by
    obtain ⟨q, hq, rfl⟩ := List.mem_map.mp hr
    exact ((addM_pw _ (prodL_pw hp.1 hf.pw hg.pw)) q hq).ne hn.1) (red_nk (addM_nk _))
  rw [mk_red] at e1
  simp_arith [e1]

theorem raisedP_eq {p n : Nat} (h : PP p) {ns : List Str} (hns : ns.length = n) {f : Poly} {d : D} (hd : tupK d = some (f.map rowD)) (hn : 1 ≤ n ∧ n ≤ 10) (hf : Pol p n f) (hfl : f.length ≤ 100) (hpt : (pts p n).length ≤ 100) {e : Int} (he : 0 ≤ e) : F_raised [spcD p ns, d, .int e] = some (pD (powP p n f (less p e).toNat)) := by
  have hp := h.bd
  have hb := less_bd hp.1 he
  have e1 := const_eq (p := p) hp.1 (ns := ns) (by omega) 1
  have e2 := lessened_eq hp.1 e
  have hb7 : less p e ≤ 1000 := by omega
  unfold F_raised
  simp_arith [e1, sp_prime, e2]
  generalize hl : loop _ _ _ _ = o
  obtain ⟨e, rfl, s4, rfl⟩ := loop_o hl (fun i env => ∃ s4, env = [.val (spcD p ns), .val d, .val (.int e), .val (pD (powP p n f i)), s4])
    ⟨_, by rw [powP, oneP, hns]⟩ (by
      rintro i k e hk ⟨s4, rfl⟩
      have c1 := powP_can (n := n) hp.1 hf.pw i
      have c2 := c1.len
      have h1 := timesI_eq h (ns := ns) (f := powP p n f i) (g := f) (d1 := pD (powP p n f i)) (d2 := d) rfl hd hn c1.pol hf (by omega) hfl
      refine stp (by simp_arith [h1]; rfl) ?_
      exact ⟨_, by rw [powP]⟩)
  simp_arith []

theorem plus_eq {p n : Nat} (hp : 2 ≤ p) {ns : List Str} (hn : 1 ≤ n) {f g : Poly} {d : D} (hf : Can p n f) (hd : tupK d = some (g.map rowD)) (hg : ∀ r ∈ g, Pw p n r.1) (hfl : f.length ≤ 1000) (hgl : g.length ≤ 1000) : F_plus [spcD p ns, pD f, d] = some (pD (mk p (addM (f ++ g)))) := by
  have e0 := dictT_m (f := f) (by omega)
  rw [putL_id (f := f) (a := []) (by simpa using hf.nk), List.nil_append] at e0
  unfold F_plus
  simp_arith [e0, hd]
  generalize hl : loop _ _ _ _ = o
  obtain ⟨e, rfl, s4, s5, rfl⟩ := loop_p hl (fun l env => ∃ s4 s5, env = [.val (spcD p ns), .val (pD f), .val d, .own (dcD (addM (f ++ l))), s4, s5])
    ⟨_, _, by rw [List.append_nil, addM_id hf.nk]⟩ (by
      rintro l r e hr hlt ⟨s4, s5, rfl⟩
      have h1 := addM_len (f ++ l)
      rw [List.length_append] at h1
      have h2 : l.length < 1000 := by omega
      refine stp (by simp_arith [imm_e, getK2_m, imm_int, stK_m]; rfl) ?_
      exact ⟨_, _, by rw [← List.append_assoc, addM_snoc]⟩)
  have h1 := addM_len (f ++ g)
  rw [List.length_append] at h1
  have e1 := from_eq hp (ns := ns) (m := addM (f ++ g)) (by omega) (fun r hr => (addM_pw (p := p) (n := n) _ (fun r hr => by
    rcases List.mem_append.mp hr with hr | hr
    · exact hf.pol.pw r hr
    · exact hg r hr) r hr).ne hn) (addM_nk _)
  simp_arith [e1]

theorem dcRun_m {g : Tg} {kx vx : Ex} {e0 : DEnv} (v : List Int × Int → Int) : ∀ (b a : Poly), NK (a ++ b) → (∀ r ∈ b, ∃ e1, gD g (rowD r) e0 = some e1 ∧ kx e1 = some (iD r.1) ∧ vx e1 = some (.int (v r))) → dcRun true (gD g) kx vx e0 (b.map rowD) ((a.map fun r => (r.1, v r)).map fun r => iD r.1) ((a.map fun r => (r.1, v r)).map fun r => .int r.2) = some (((a ++ b).map fun r => (r.1, v r)).map (fun r => iD r.1), ((a ++ b).map fun r => (r.1, v r)).map fun r => .int r.2)
  | [], a, _, _ => by rw [List.append_nil, List.map_nil, dcRun]
  | r :: b, a, h, hs => by
    have h2 : NK ((a ++ [r]) ++ b) := by rw [List.append_assoc]; exact h
    have ih := dcRun_m v b (a ++ [r]) h2 fun q hq => hs q (List.mem_cons_of_mem _ hq)
    have h3 : r.1 ∉ (a.map fun r => (r.1, v r)).map (·.1) := by
      rw [List.map_map]
      exact nk_fresh h
    have h4 : (a.map fun r => (r.1, v r)) ++ [(r.1, v r)] = (a ++ [r]).map fun r => (r.1, v r) := by simp
    obtain ⟨e1, g1, g2, g3⟩ := hs r (by simp)
    rw [List.map_cons]
    unfold dcRun
    simp only [g1, g2, g3, Option.bind_some]
    rw [if_pos ⟨keyD_iD _, by simp⟩, dput_new h3, h4]
    show dcRun true (gD g) kx vx e0 (b.map rowD) _ _ = _
    rw [ih, List.append_assoc]; rfl
theorem scaled_eq {p n : Nat} (hp : 2 ≤ p ∧ p ≤ 1000) {ns : List Str} (hn : 1 ≤ n) {f : Poly} (hf : Can p n f) (hfl : f.length ≤ 1000) (c : Int) : F_scaled [spcD p ns, pD f, .int c] = some (pD (mk p (scal f c))) := by
  have e2 := dcRun_m (g := .t [(.n 3), (.n 4)]) (kx := var 3) (vx := op2 mulD (var 4) (var 2)) (e0 := [.val (spcD p ns), .val (pD f), .val (.int c), .no, .no]) (fun r => r.2 * c) f [] (by simpa using hf.nk) fun r hr => by
    have h1 := hf.1 r hr
    have hr4 : -18446744073709551616 < r.2 ∧ r.2 < 18446744073709551616 := by omega
    exact ⟨[.val (spcD p ns), .val (pD f), .val (.int c), .val (iD r.1), .val (.int r.2)], by simp_arith [], by simp_arith [], by simp_arith []⟩
  rw [List.nil_append] at e2
  have e2 : dcRun true (gD (.t [(.n 3), (.n 4)])) (var 3) (op2 mulD (var 4) (var 2)) [.val (spcD p ns), .val (pD f), .val (.int c), .no, .no] (f.map rowD) [] [] = some ((scal f c).map (fun r => iD r.1), (scal f c).map fun r => .int r.2) := e2
  have e1 := from_eq hp.1 (ns := ns) (m := scal f c) (by rw [scal_len]; omega) (fun r hr => (scal_pw hf.pol.pw r hr).ne hn) (scal_nk hf.nk)
  have e3 : D.dic true ((scal f c).map fun r => iD r.1) ((scal f c).map fun r => .int r.2) = dcD (scal f c) := rfl
  unfold F_scaled
  simp_arith [e2, e3, e1]
theorem minus_eq {p n : Nat} (hp : 2 ≤ p ∧ p ≤ 1000) {ns : List Str} (hn : 1 ≤ n) {f g : Poly} (hf : Can p n f) (hg : Can p n g) (hfl : f.length ≤ 1000) (hgl : g.length ≤ 1000) : F_minus [spcD p ns, pD f, pD g] = some (pD (subP p f g)) := by
  have e1 := scaled_eq hp (ns := ns) hn hg hgl ((p : Int) - 1)
  have c1 := scl_can (c := (p : Int) - 1) (show 0 < p by omega) hg
  have l1 : (mk p (scal g ((p : Int) - 1))).length ≤ 1000 := Nat.le_trans mk_len (by rw [scal_len]; exact hgl)
  have e2 := plus_eq hp.1 (ns := ns) hn hf (d := pD (mk p (scal g ((p : Int) - 1)))) rfl c1.pol.pw hfl l1
  unfold F_minus
  simp_arith [sp_prime, e1, e2]
  rfl

def unit (n i : Nat) : List Int := (List.range n).map fun k => if k = i then 1 else 0
theorem unit_len {n i : Nat} : (unit n i).length = n := by simp [unit]
theorem unit_pw {p n i : Nat} (hp : 2 ≤ p) : Pw p n (unit n i) := ⟨unit_len, fun x hx => by
  obtain ⟨k, _, rfl⟩ := List.mem_map.mp hx
  split <;> omega⟩
def unkP (p n i : Nat) : Poly := mk p [(unit n i, 1)]
theorem unk_eq {p n i : Nat} (hp : 2 ≤ p) : unkP p n i = [(unit n i, 1)] := by
  have : (1 : Int) % (p : Int) = 1 := one_mod hp
  simp [unkP, mk, List.lookup, this]
theorem unk_can {p n i : Nat} (hp : 2 ≤ p) : Can p n (unkP p n i) := mk_can (by omega) (fun r hr => by rw [List.mem_singleton.mp hr]; exact unit_pw hp) one_nk
theorem unknown_eq {p : Nat} (hp : 2 ≤ p) {ns : List Str} (hn : 1 ≤ ns.length ∧ ns.length ≤ 1000) (i : Nat) : F_unknown [spcD p ns, nD i] = some (pD (unkP p ns.length i)) := by
  have e1 : lcRun (gD (.n 2)) yes (cal (f1 intD) (aC (boo (cmp eqD (var 2) (var 1))) aN)) [.val (spcD p ns), .val (nD i), .no] ((List.range ns.length).map fun (k : Nat) => D.int (k : Int)) = some ((unit ns.length i).map .int) :=
    lcRun_m (fun k : Nat => if k = i then (1 : Int) else 0) fun k hk => by
      by_cases h : k = i
      · subst h
        simp_arith []
      · have h2 : (k : Int) = (i : Int) ↔ False := iff_false_intro (by omega)
        simp_arith [h2, h]
  have hu : (unit ns.length i).length = ns.length := unit_len
  have e2 := from_eq hp (ns := ns) (m := [(unit ns.length i, 1)]) (by simp) (fun r hr => by rw [List.mem_singleton.mp hr]; exact (unit_pw (p := p) hp).ne hn.1) one_nk
  simp only [dcD, List.map_cons, List.map_nil] at e2
  unfold F_unknown
  simp_arith [sp_count, e1, keyD_iD, e2]
  rfl

theorem ev_add {p : Nat} {f g : Poly} {x : List Int} : ev (mk p (addM (f ++ g))) x % (p : Int) = (ev f x + ev g x) % (p : Int) := ws_add
theorem mon_unitF {i : Nat} : ∀ (n s : Nat) (x : List Int), x.length = n → mon ((List.range' s n).map fun k => if k = i then 1 else 0) x = if s ≤ i ∧ i < s + n then x.getD (i - s) 0 else 1
  | 0, s, x, h => by
    rw [if_neg (by omega)]; rfl
  | n + 1, s, [], h => by simp at h
  | n + 1, s, a :: x, h => by
    rw [List.length_cons] at h
    rw [List.range'_succ, List.map_cons, mon_cons, mon_unitF n (s + 1) x (by omega)]
    by_cases h1 : s = i
    · subst h1
      rw [if_pos rfl, if_neg (by omega), if_pos (by omega)]
      simp [Int.pow_succ]
    · rw [if_neg h1]
      by_cases h2 : s ≤ i ∧ i < s + (n + 1)
      · rw [if_pos h2, if_pos (by omega)]
        have e : i - s = (i - (s + 1)) + 1 := by omega
        rw [e]; simp
      · rw [if_neg h2, if_neg (by omega)]; simp
theorem mon_unit {n i : Nat} {x : List Int} (hx : x.length = n) (hi : i < n) : mon (unit n i) x = x.getD i 0 := by
  unfold unit
  rw [List.range_eq_range', mon_unitF n 0 x hx, if_pos (by omega)]; rfl
def slK (j : Nat) (kd : D) (e : DEnv) (d : D) : Option DSlot → Option DRes
  | some (DSlot.slf (D.lst xs)) => match kd with
    | .int n => (ixN xs.length n).bind fun q => some (.nx (e.set j (.slf (.lst (xs.set q d)))))
    | _ => none
  | _ => none
theorem stS_e {i : Nat} {k a : Ex} {e : DEnv} : stS i k a e = (a e).bind fun d => (k e).bind fun kd => slK i kd e d e[i]? := by
  unfold stS
  congr; funext d; congr; funext kd
  cases e[i]? with
  | none => rfl
  | some s => cases s with
    | slf z => cases z <;> cases kd <;> rfl
    | _ => rfl
theorem slK_e {j : Nat} {n : Int} {e : DEnv} {d : D} {xs : List D} : slK j (.int n) e d (some (.slf (.lst xs))) = (ixN xs.length n).bind fun q => some (.nx (e.set j (.slf (.lst (xs.set q d))))) := rfl
def gsK (kd : D) : Option DSlot → Option D
  | some (DSlot.slf (D.lst xs)) => match kd with
    | .int n => (ixN xs.length n).bind fun q => xs[q]?
    | _ => none
  | _ => none
theorem getS_e {i : Nat} {k : Ex} {e : DEnv} : getS i k e = (k e).bind fun kd => gsK kd e[i]? := by
  unfold getS
  congr; funext kd
  cases e[i]? with
  | none => rfl
  | some s => cases s with
    | slf z => cases z <;> cases kd <;> rfl
    | _ => rfl
theorem gsK_e {n : Int} {xs : List D} : gsK (.int n) (some (.slf (.lst xs))) = (ixN xs.length n).bind fun q => xs[q]? := rfl
theorem puE_e {a : Ex} {e : DEnv} : puE a e = (a e).map fun d => (d, e) := rfl
theorem eN_e {e : DEnv} : eN e = some ([], e) := rfl
theorem eC_e {a : Ee} {b : Ea} {e : DEnv} : eC a b e = (a e).bind fun p => (b p.2).bind fun q => some (p.1 :: q.1, q.2) := rfl
theorem eop2_e {f : D → D → Option D} {a b : Ee} {e : DEnv} : eop2 f a b e = (a e).bind fun p => (b p.2).bind fun q => (f p.1 q.1).map fun d => (d, q.2) := rfl
theorem eTup_e {a : Ea} {e : DEnv} : eTup a e = (a e).bind fun p => if p.1.length ≤ szL then some (.tup p.1, p.2) else none := rfl
theorem setEe_e {i : Nat} {a : Ee} {e : DEnv} : setEe i a e = (a e).map fun p => .nx (p.2.set i (.val p.1)) := rfl
def retK (i : Nat) (e : DEnv) : Option D → Option (D × DEnv)
  | some (.tup [r, d']) => some (r, e.set i (.slf d'))
  | _ => none
theorem retK_e {i : Nat} {e : DEnv} {r d' : D} : retK i e (some (.tup [r, d'])) = some (r, e.set i (.slf d')) := rfl
def slfK : Option DSlot → Option D
  | some (DSlot.slf d) => some d
  | _ => none
theorem slfK_e {d : D} : slfK (some (.slf d)) = some d := rfl
theorem eCal_e {F : Fn} {i j : Nat} {a b : Ax} {e : DEnv} : eCal F i j a b e = (a e).bind fun xs => (slfK e[i]?).bind fun d => (b e).bind fun ys => if xs.length = j then retK i e (F (xs ++ d :: ys)) else none := by
  unfold eCal
  congr; funext xs
  cases e[i]? with
  | none => rfl
  | some s => cases s with
    | slf z =>
      simp only [slfK_e, Option.bind_some]
      rfl
    | _ => rfl
theorem nCal_e {F : Fn} {j : Nat} {a : Ax} {n : Ex} {b : Ax} {e : DEnv} {xs ys : List D} {d r d' : D} (h1 : a e = some xs) (h2 : n e = some d) (h3 : b e = some ys) (h4 : xs.length = j) (h5 : D.imms ys = true) (h6 : F (xs ++ d :: ys) = some (.tup [r, d'])) : nCal F j a n b e = some r := by
  simp only [nCal, h1, h2, h3, Option.bind_some, h4, h5, and_self, if_true, h6]
theorem rtS_e {i : Nat} {a : Ee} {e : DEnv} : rtS i a e = (a e).bind fun p => (slfK p.2[i]?).bind fun d => some (.ret (.tup [p.1, d])) := by
  unfold rtS
  congr; funext p
  cases p.2[i]? with
  | none => rfl
  | some s => cases s <;> rfl
def fnS (j : Nat) : DRes → Option D
  | .ret d => some d
  | .nx e => match (e[j]? : Option DSlot) with
    | some (DSlot.slf d) => some (.tup [.non, d])
    | _ => none
  | _ => none
theorem fncS_e {j m n : Nat} {b : Sx} {ds : List D} (h : ds.length = m) (hj : j < m) : fncS j m n b ds = (b ((ds.map DSlot.val ++ List.replicate (n - m) DSlot.no).set j (.slf (ds.getD j .non)))).bind (fnS j) := by
  unfold fncS
  rw [if_pos ⟨h, hj⟩]
  rfl
theorem fnS_ret {j : Nat} {d : D} : fnS j (.ret d) = some d := rfl

def Pl (ns : List Str) : Prop := ∀ x ∈ ns, (D.str x).plain 59 = true ∧ (D.str x).plain 60 = true
theorem eqv_str (x y : Str) : D.eqv (.str x) (.str y) = (x == y) := by simp only [D.eqv]
def idxf : List Str → Str → Nat
  | [], _ => 0
  | y :: ys, x => if y = x then 0 else idxf ys x + 1
theorem indexOf_str : ∀ {ns : List Str} {c : Str}, c ∈ ns → indexOf (ns.map .str) (.str c) = some (idxf ns c) ∧ ∃ h : idxf ns c < ns.length, ns[idxf ns c] = c
  | [], _, h => by cases h
  | y :: ys, c, h => by
    by_cases e : y = c
    · subst e
      refine ⟨?_, ?_⟩
      · simp [indexOf, eqv_str, idxf]
      · simp [idxf]
    · have hc : c ∈ ys := by
        rcases List.mem_cons.mp h with q | q
        · exact absurd q.symm e
        · exact q
      obtain ⟨h1, h2, h3⟩ := indexOf_str hc
      refine ⟨?_, ?_⟩
      · simp [indexOf, eqv_str, idxf, e, h1]
      · simp only [idxf, if_neg e, List.length_cons]
        exact ⟨by omega, by simpa using h3⟩
theorem indL_str {ns : List Str} (hp : Pl ns) {c : Str} (hc : c ∈ ns) : indL (.lst (ns.map .str)) (.str c) = some (.int ((idxf ns c : Nat) : Int)) := by
  have h1 : D.plains 59 (ns.map .str) = true := plains_all fun d hd => by
    obtain ⟨x, hx, rfl⟩ := List.mem_map.mp hd
    exact (hp x hx).1
  simp only [indL, (hp c hc).2, h1, Bool.and_self, if_true, (indexOf_str hc).1, Option.map_some]

def txD (T : List Nat) : D := .str ⟨T.toArray⟩
def rdD (sp : D) (T : List Nat) (ln : D) (i e : Nat) : D := .ins "Reader" ["space", "text", "line", "at", "end"] [sp, txD T, ln, nD i, nD e]
section
variable {sp ln : D} {T : List Nat} {i e : Nat}
theorem rd_space : attr ["Reader"] "space" (rdD sp T ln i e) = some sp := by
  simp only [attr, rdD]; rw [if_pos (by decide)]; rfl
theorem rd_text : attr ["Reader"] "text" (rdD sp T ln i e) = some (txD T) := by
  simp only [attr, rdD]; rw [if_pos (by decide)]; rfl
theorem rd_at : attr ["Reader"] "at" (rdD sp T ln i e) = some (nD i) := by
  simp only [attr, rdD]; rw [if_pos (by decide)]; rfl
theorem rd_end : attr ["Reader"] "end" (rdD sp T ln i e) = some (nD e) := by
  simp only [attr, rdD]; rw [if_pos (by decide)]; rfl
theorem sv_e {j : Nat} {env : DEnv} : sv j env = slfK env[j]? := by
  unfold sv slfK; cases env[j]? with
  | none => rfl
  | some s => cases s <;> rfl
theorem aug_rd {a : Ex} {env : DEnv} {k : Nat} (h0 : env[0]? = some (.slf (rdD sp T ln i e))) (ha : a env = some (nD k)) : augF 0 "Reader" "at" a env = some (.nx (env.set 0 (.slf (rdD sp T ln (i + k) e)))) := by
  unfold augF
  rw [h0]
  simp only [rdD]
  rw [if_pos (by simp)]
  have lk : List.lookup ("at" : Str) (List.zip (["space", "text", "line", "at", "end"] : List Str) [sp, txD T, ln, nD i, nD e]) = some (nD i) := rfl
  rw [lk, Option.bind_some, ha, Option.bind_some]
  rfl
theorem tx_get {k c : Nat} (hT : T.length ≤ 100000) (h : T[k]? = some c) : getD (txD T) (nD k) = some (txD [c]) := by
  obtain ⟨hk, rfl⟩ := List.getElem?_eq_some_iff.mp h
  have hz : (⟨T.toArray⟩ : Str).length ≤ szL := by show T.toArray.size ≤ szL; unfold szL; simp; omega
  have hx : ixN (⟨T.toArray⟩ : Str).length (k : Int) = some k := by
    unfold ixN
    have : (⟨T.toArray⟩ : Str).length = T.length := by show T.toArray.size = _; simp
    rw [this, if_pos (by omega), if_pos (by omega)]
    rfl
  show (if (⟨T.toArray⟩ : Str).length ≤ szL then _ else none) = _
  rw [if_pos hz]
  show (ixN (⟨T.toArray⟩ : Str).length (k : Int)).bind _ = _
  rw [hx, Option.bind_some]
  simp [txD, hk]
theorem tx_eq {a b : List Nat} (ha : ∀ c ∈ a, c < 128) (hb : ∀ c ∈ b, c < 128) : eqD (txD a) (txD b) = some (decide (a = b)) := by
  have pl : ∀ l : List Nat, (∀ c ∈ l, c < 128) → (txD l).plain 60 = true := fun l hl => by
    show (l.toArray).all (· < 0x110000) = true
    rw [Array.all_eq_true]
    intro j hj
    have := hl (l.toArray[j]) (by simp)
    exact decide_eq_true (by omega)
  simp only [eqD, pl a ha, pl b hb, Bool.and_self, if_true]
  congr 1
  show ((⟨a.toArray⟩ : Str) == ⟨b.toArray⟩) = _
  by_cases h : a = b
  · subst h; simp
  · have : (⟨a.toArray⟩ : Str) ≠ ⟨b.toArray⟩ := fun z => h (by injection z with z; simpa using z)
    simp [h, this]
end
theorem whl_r {t : Tx} {b : Sx} (P : Nat → DEnv → Prop) (step : ∀ m e, P m e → ∃ c, t e = some c ∧ (c = true → ∃ e' m', b e = some (.nx e') ∧ m' < m ∧ P m' e')) : ∀ m n e, P m e → m < n → ∃ e' m', whl t b n e = some (.nx e') ∧ P m' e' ∧ t e' = some false
  | m, 0, e, _, h => by omega
  | m, n + 1, e, hP, h => by
    obtain ⟨c, hc, hs⟩ := step m e hP
    unfold whl
    rw [hc, Option.bind_some]
    cases c with
    | false => exact ⟨e, m, rfl, hP, hc⟩
    | true =>
      obtain ⟨e', m', hb, hm, hP'⟩ := hs rfl
      obtain ⟨e'', m'', h1, h2, h3⟩ := whl_r P step m' n e' hP' (by omega)
      rw [if_pos rfl, hb]
      exact ⟨e'', m'', h1, h2, h3⟩
section
variable {sp ln : D} {T : List Nat} {i e : Nat}
theorem tx_c {c : Nat} (hc : c < 128) (a : List Nat) (ha : ∀ x ∈ a, x < 128) : eqD (txD [c]) (txD a) = some (decide ([c] = a)) := tx_eq (fun x hx => by rw [List.mem_singleton.mp hx]; exact hc) ha
theorem next_eq (hT : T.length ≤ 100000) (hC : ∀ c ∈ T, c < 128) (he : e ≤ T.length) (hi : i ≤ e) : ∃ j, i ≤ j ∧ j ≤ e ∧ (∀ k, i ≤ k → k < j → T[k]? = some 32) ∧ (j < e → T[j]? ≠ some 32) ∧
    F_Reader_next_char [rdD sp T ln i e] = some (.tup [txD (if j < e then [T.getD j 0] else []), rdD sp T ln j e]) := by
  have s32 : (D.str " ") = txD [32] := rfl
  have s0 : (D.str "") = txD [] := rfl
  have n1 : (D.int 1) = nD 1 := rfl
  have tst : ∀ j, (andT (cmp ltD (fld ["Reader"] "at" (sv 0)) (fld ["Reader"] "end" (sv 0))) (cmp eqD (op2 getD (fld ["Reader"] "text" (sv 0)) (fld ["Reader"] "at" (sv 0))) (cst (.str " ")))) [.slf (rdD sp T ln j e)] = some (decide (j < e ∧ T[j]? = some 32)) := fun j => by
    by_cases h : j < e
    · have hg : T[j]? = some T[j] := List.getElem?_eq_getElem (by omega)
      have g1 := tx_get hT hg
      have g2 := tx_c (hC T[j] (List.getElem_mem _)) [32] (by simp)
      have h' : ((j : Int) < (e : Int)) ↔ True := iff_true_intro (by omega)
      simp -implicitDefEqProofs (disch := first | omega | (simp only [List.length_map, List.length_cons, List.length_nil, List.length_append, List.length_range, List.length_replicate]; omega)) only [sq_e, sqK_nx, sqK_ret, sqK_bk, sqK_ct, skip_e, setE_e, newE_e, rt_e, brk_e, cnt_e, ifS_e, ifK_t, ifK_f, ifX_t, ifX_f, ifT_t, ifT_f, fncK_ret, fncK_nx, ctK_nx, ctK_ct, ctK_ret, lcK_e, lstK_e, tupK_e, tupK_f, tupK_cat, ftupD_lst, ftupE_e, lenD_f, getD_f, addD_ff, blK_e, ovK_e, vaK_e, ife_e, var_e, ovar_e, cst_e, op1_e, op2_e, op3_e, aN_e, aC_e, tupE_e, lstE_e, cal_e, f1_e, cmp_e, flip_e, neg_e, chn_e, boo_e, tes_e, ff_e, tt_e, andT_e, orT_e, notT_e, fX_e, tX_e, andV_e, orV_e, notV_e, isN_e, yes_e, asg_e, gD_n, gD_t, gDs_n, gDs_c, frz_e, mov_e, movO_e, forE_e, iLst_e, iTp_e, iRng_e, one1_c, two2_c, iZp_e, lcE_e, lc2E_e, wip_n, wip_c, noOwn_n, noOwn_c, noO_no, noO_val, fnc_e, ini_e, met_e, fld_e, slE_e, prK_e, prt_e, prN_e, dic1_e, appK_e, app_e, extK_e, ext_e, stK_e, drpA_e, drpK_e, addD_int, addD_tup, addD_lst, subD_int, mulD_l, mulD_r, modD_int, divD_int, intD_int, intD_bl, ltD_int, leD_int, eqD_int, eqD_bl, lenD_lst, lenD_tup, lenD_scr, tupD_lst, listD_lst, listD_tup, revL_lst, isBool_bl, max2_int, isBD_bl, revT_tup, iEnum_e, iItm_e, iSq_e, isC_i, isLst_l, addI_int, subI_int, iZm_e, seqK_t, seqK_l, dcE_e, getD_l, getD_t, rngL_n, rngL_i, rngL_2, sumL_ints, sumT_tup, sumT_lst, allL_bls, anyL_bls, lcT_t, lcT_f, set_0, set_s, szL_le, szL_lt, Option.bind_some, Option.map_some, List.map_cons, List.map_nil, List.length_cons, List.length_nil, List.length_map, List.length_range, List.getElem?_cons_zero, List.getElem?_cons_succ, List.getElem?_map, List.replicate_succ, List.replicate_zero, List.cons_append, List.nil_append, if_true, if_false, ite_true, ite_false, Bool.and_true, Bool.true_and, Bool.and_self, and_true, true_and, and_self, decide_true, decide_false, Bool.not_true, Bool.not_false, eq_self, Int.toNat_natCast, Int.toNat_zero, Nat.reduceAdd, Nat.reduceSub, Nat.reduceLeDiff, Nat.reduceMul, Nat.reduceEqDiff, Int.reduceToNat, Nat.zero_add, Nat.reduceLT, Int.reduceLT, Int.reduceLE, Int.reduceEq, Int.reduceNe, Int.reduceMul, Int.reduceAdd, Int.reducePow, Bool.false_eq_true, reduceCtorEq, not_true_eq_false, not_false_eq_true, ne_eq, Option.getD_some, if_pos, List.length_append, List.length_replicate, msI, maI, msT, maT, msP, maR, sv_e, slfK_e, rd_at, rd_end, rd_text, h', s32, g1, g2]
      simp [h, hg]
    · have h' : ((j : Int) < (e : Int)) ↔ False := iff_false_intro (by omega)
      simp_arith [sv_e, slfK_e, rd_at, rd_end, rd_text, h']
      simp [h]
  obtain ⟨env, m, hw, ⟨j, rfl, hij, hje, _, hsp⟩, hf⟩ := whl_r (t := (andT (cmp ltD (fld ["Reader"] "at" (sv 0)) (fld ["Reader"] "end" (sv 0))) (cmp eqD (op2 getD (fld ["Reader"] "text" (sv 0)) (fld ["Reader"] "at" (sv 0))) (cst (.str " "))))) (b := augF 0 "Reader" "at" (cst (.int 1))) (fun m env => ∃ j, env = [.slf (rdD sp T ln j e)] ∧ i ≤ j ∧ j ≤ e ∧ m = e - j ∧ ∀ k, i ≤ k → k < j → T[k]? = some 32)
    (by
      rintro m env ⟨j, rfl, hij, hje, hm, hsp⟩
      refine ⟨_, tst j, fun hc => ?_⟩
      have hc := of_decide_eq_true hc
      refine ⟨_, e - (j + 1), aug_rd (i := j) (k := 1) rfl rfl, by omega, j + 1, rfl, by omega, by omega, rfl, fun k h1 h2 => ?_⟩
      by_cases hk : k = j
      · rw [hk]; exact hc.2
      · exact hsp k h1 (by omega))
    (e - i) szL [.slf (rdD sp T ln i e)] ⟨i, rfl, Nat.le_refl _, hi, rfl, fun k h1 h2 => by omega⟩ (by unfold szL; omega)
  rw [tst j] at hf
  have hf := of_decide_eq_false (Option.some.inj hf)
  refine ⟨j, hij, hje, hsp, fun h z => hf ⟨h, z⟩, ?_⟩
  have hw' : whE (andT (cmp ltD (fld ["Reader"] "at" (sv 0)) (fld ["Reader"] "end" (sv 0))) (cmp eqD (op2 getD (fld ["Reader"] "text" (sv 0)) (fld ["Reader"] "at" (sv 0))) (cst (.str " ")))) (augF 0 "Reader" "at" (cst (.int 1))) [.slf (rdD sp T ln i e)] = some (.nx [.slf (rdD sp T ln j e)]) := hw
  unfold F_Reader_next_char
  rw [fncS_e (j := 0) (m := 1) (n := 1) (ds := [rdD sp T ln i e]) rfl (by omega)]
  by_cases h : j < e
  · have hg : T[j]? = some (T.getD j 0) := by
      rw [List.getD_eq_getElem?_getD, List.getElem?_eq_getElem (by omega)]; rfl
    have g1 := tx_get hT hg
    have h' : ((j : Int) < (e : Int)) ↔ True := iff_true_intro (by omega)
    rw [if_pos h]
    simp -implicitDefEqProofs (disch := first | omega | (simp only [List.length_map, List.length_cons, List.length_nil, List.length_append, List.length_range, List.length_replicate]; omega)) only [sq_e, sqK_nx, sqK_ret, sqK_bk, sqK_ct, skip_e, setE_e, newE_e, rt_e, brk_e, cnt_e, ifS_e, ifK_t, ifK_f, ifX_t, ifX_f, ifT_t, ifT_f, fncK_ret, fncK_nx, ctK_nx, ctK_ct, ctK_ret, lcK_e, lstK_e, tupK_e, tupK_f, tupK_cat, ftupD_lst, ftupE_e, lenD_f, getD_f, addD_ff, blK_e, ovK_e, vaK_e, ife_e, var_e, ovar_e, cst_e, op1_e, op2_e, op3_e, aN_e, aC_e, tupE_e, lstE_e, cal_e, f1_e, cmp_e, flip_e, neg_e, chn_e, boo_e, tes_e, ff_e, tt_e, andT_e, orT_e, notT_e, fX_e, tX_e, andV_e, orV_e, notV_e, isN_e, yes_e, asg_e, gD_n, gD_t, gDs_n, gDs_c, frz_e, mov_e, movO_e, forE_e, iLst_e, iTp_e, iRng_e, one1_c, two2_c, iZp_e, lcE_e, lc2E_e, wip_n, wip_c, noOwn_n, noOwn_c, noO_no, noO_val, fnc_e, ini_e, met_e, fld_e, slE_e, prK_e, prt_e, prN_e, dic1_e, appK_e, app_e, extK_e, ext_e, stK_e, drpA_e, drpK_e, addD_int, addD_tup, addD_lst, subD_int, mulD_l, mulD_r, modD_int, divD_int, intD_int, intD_bl, ltD_int, leD_int, eqD_int, eqD_bl, lenD_lst, lenD_tup, lenD_scr, tupD_lst, listD_lst, listD_tup, revL_lst, isBool_bl, max2_int, isBD_bl, revT_tup, iEnum_e, iItm_e, iSq_e, isC_i, isLst_l, addI_int, subI_int, iZm_e, seqK_t, seqK_l, dcE_e, getD_l, getD_t, rngL_n, rngL_i, rngL_2, sumL_ints, sumT_tup, sumT_lst, allL_bls, anyL_bls, lcT_t, lcT_f, set_0, set_s, szL_le, szL_lt, Option.bind_some, Option.map_some, List.map_cons, List.map_nil, List.length_cons, List.length_nil, List.length_map, List.length_range, List.getElem?_cons_zero, List.getElem?_cons_succ, List.getElem?_map, List.replicate_succ, List.replicate_zero, List.cons_append, List.nil_append, if_true, if_false, ite_true, ite_false, Bool.and_true, Bool.true_and, Bool.and_self, and_true, true_and, and_self, decide_true, decide_false, Bool.not_true, Bool.not_false, eq_self, Int.toNat_natCast, Int.toNat_zero, Nat.reduceAdd, Nat.reduceSub, Nat.reduceLeDiff, Nat.reduceMul, Nat.reduceEqDiff, Int.reduceToNat, Nat.zero_add, Nat.reduceLT, Int.reduceLT, Int.reduceLE, Int.reduceEq, Int.reduceNe, Int.reduceMul, Int.reduceAdd, Int.reducePow, Bool.false_eq_true, reduceCtorEq, not_true_eq_false, not_false_eq_true, ne_eq, Option.getD_some, if_pos, List.length_append, List.length_replicate, msI, maI, msT, maT, msP, maR, List.set, List.getD, hw', sv_e, slfK_e, rd_at, rd_end, rd_text, h', g1, rtS_e, puE_e, fnS_ret]
  · have h' : ((j : Int) < (e : Int)) ↔ False := iff_false_intro (by omega)
    rw [if_neg h]
    simp_arith [List.set, List.getD, hw', sv_e, slfK_e, rd_at, rd_end, rd_text, h', rtS_e, puE_e, fnS_ret]
    rfl
end

theorem eMet_rd {sp ln : D} {T : List Nat} {i e : Nat} {m : Str} {F : Fn} {a : Ax} {env : DEnv} {ys : List D} {r d' : D} (h0 : slfK env[0]? = some (rdD sp T ln i e)) (ha : a env = some ys) (hF : F (rdD sp T ln i e :: ys) = some (.tup [r, d'])) (hm : m ∉ (["space", "text", "line", "at", "end"] : List Str)) : eMet "Reader" m F 0 a env = some (r, env.set 0 (.slf d')) := by
  unfold slfK at h0
  split at h0
  · rename_i d hd
    cases h0
    unfold eMet
    rw [hd]
    simp only [rdD] at hF ⊢
    rw [if_pos ⟨trivial, hm⟩, ha, Option.bind_some, hF]
  · cases h0
theorem cmpE_e {f : D → D → Option Bool} {a b : Ee} {e : DEnv} : cmpE f a b e = (a e).bind fun p => (b p.2).bind fun q => (f p.1 q.1).map fun c => (c, q.2) := rfl
theorem notE_e {t : Et} {e : DEnv} : notE t e = (t e).map fun p => (!p.1, p.2) := rfl
theorem orE_e {a b : Et} {e : DEnv} : orE a b e = (a e).bind fun p => if p.1 = true then some (true, p.2) else b p.2 := rfl
theorem ifE_e {t : Et} {a b : Sx} {e : DEnv} : ifE t a b e = (t e).bind fun p => if p.1 = true then a p.2 else b p.2 := rfl
theorem calE_e {F : Fn} {a : Ea} {e : DEnv} : calE F a e = (a e).bind fun p => (F p.1).map fun d => (d, p.2) := rfl
def blP : D × DEnv → Option (Bool × DEnv)
  | (.bl b, e) => some (b, e)
  | _ => none
theorem blP_e {b : Bool} {e : DEnv} : blP (.bl b, e) = some (b, e) := rfl
theorem tesE_e {a : Ee} {e : DEnv} : tesE a e = (a e).bind blP := by
  unfold tesE
  congr; funext p
  obtain ⟨d, e⟩ := p
  cases d <;> rfl
section
variable {sp ln : D} {T : List Nat} {i e : Nat}
theorem accept_eq (hT : T.length ≤ 100000) (hC : ∀ c ∈ T, c < 128) (he : e ≤ T.length) (hi : i ≤ e) {c : Nat} (hc : c < 128) : ∃ j, i ≤ j ∧ j ≤ e ∧ (∀ k, i ≤ k → k < j → T[k]? = some 32) ∧ (j < e → T[j]? ≠ some 32) ∧
    F_Reader_accept [rdD sp T ln i e, txD [c]] = some (.tup [.bl (decide (j < e ∧ T.getD j 0 = c)), rdD sp T ln (if j < e ∧ T.getD j 0 = c then j + 1 else j) e]) := by
  obtain ⟨j, h1, h2, h3, h4, hn⟩ := next_eq (sp := sp) (ln := ln) hT hC he hi
  refine ⟨j, h1, h2, h3, h4, ?_⟩
  have hm := eMet_rd (m := "next_char") (F := F_Reader_next_char) (a := aN) (env := [.slf (rdD sp T ln i e), .val (txD [c])]) (ys := []) rfl rfl hn (by decide)
  have hg : ∀ x ∈ (if j < e then [T.getD j 0] else []), x < 128 := fun x hx => by
    split at hx
    · rw [List.mem_singleton.mp hx, List.getD_eq_getElem?_getD, List.getElem?_eq_getElem (by omega)]
      exact hC _ (List.getElem_mem _)
    · cases hx
  have hq := tx_eq hg (b := [c]) (fun x hx => by rw [List.mem_singleton.mp hx]; exact hc)
  have ha : augF 0 "Reader" "at" (cst (.int 1)) [.slf (rdD sp T ln j e), .val (txD [c])] = some (.nx [.slf (rdD sp T ln (j + 1) e), .val (txD [c])]) := aug_rd (i := j) (k := 1) rfl rfl
  have hd : (decide ((if j < e then [T.getD j 0] else []) = [c])) = decide (j < e ∧ T.getD j 0 = c) := by
    by_cases h : j < e <;> simp [h]
  rw [hd] at hq
  generalize (if j < e then [T.getD j 0] else []) = X at hm hq
  unfold F_Reader_accept
  rw [fncS_e (j := 0) (m := 2) (n := 2) (ds := [rdD sp T ln i e, txD [c]]) rfl (by omega)]
  by_cases h : j < e ∧ T.getD j 0 = c
  · rw [decide_eq_true h] at hq
    rw [decide_eq_true h, if_pos h]
    simp_arith [List.set, List.getD, ifE_e, cmpE_e, hm, puE_e, Option.map_some, neg_e, hq, ha, rtS_e, slfK_e, fnS_ret]
  · rw [decide_eq_false h] at hq
    rw [decide_eq_false h, if_neg h]
    simp_arith [List.set, List.getD, ifE_e, cmpE_e, hm, puE_e, Option.map_some, neg_e, hq, rtS_e, slfK_e, fnS_ret]
end

theorem cut_mid {l : List Nat} {a b : Nat} (h : a ≤ b) (hb : b ≤ l.length) : cut l (some (a : Int)) (some (b : Int)) = (l.take b).drop a := by
  unfold cut six
  simp only
  have h1 : ¬ (a : Int) < 0 := by omega
  have h2 : ¬ (b : Int) < 0 := by omega
  rw [if_neg h1, if_neg h2, Int.toNat_natCast, Int.toNat_natCast, Nat.min_eq_left (by omega), Nat.min_eq_left (by omega), List.drop_take]
theorem tx_in {c : Nat} {A : List Nat} : inS (txD [c]) (txD A) = some (decide (c ∈ A)) := by
  simp [inS, txD]
theorem tx_slc {T : List Nat} {a b : Nat} (hT : T.length ≤ 100000) (h : a ≤ b) (hb : b ≤ T.length) : slcT (some (a : Int)) (some (b : Int)) (txD T) = some (txD ((T.take b).drop a)) := by
  have hz : (⟨T.toArray⟩ : Str).length ≤ szL := by show T.toArray.size ≤ szL; unfold szL; simp; omega
  show (if (⟨T.toArray⟩ : Str).length ≤ szL then some (D.str ⟨(cut T.toArray.toList (some (a : Int)) (some (b : Int))).toArray⟩) else none) = _
  rw [if_pos hz]
  show some (D.str ⟨(cut T (some (a : Int)) (some (b : Int))).toArray⟩) = _
  rw [cut_mid h hb]
  rfl
section
variable {sp ln : D} {T : List Nat} {i e : Nat}
theorem run_eq (hT : T.length ≤ 100000) (he : e ≤ T.length) (hi : i ≤ e) (A : List Nat) : ∃ j, i ≤ j ∧ j ≤ e ∧ (∀ k, i ≤ k → k < j → T.getD k 0 ∈ A) ∧ (j < e → T.getD j 0 ∉ A) ∧
    F_Reader_run [rdD sp T ln i e, txD A] = some (.tup [txD ((T.take j).drop i), rdD sp T ln j e]) := by
  have tst : ∀ j, (andT (cmp ltD (fld ["Reader"] "at" (sv 0)) (fld ["Reader"] "end" (sv 0))) (cmp inS (op2 getD (fld ["Reader"] "text" (sv 0)) (fld ["Reader"] "at" (sv 0))) (var 1))) [.slf (rdD sp T ln j e), .val (txD A), .val (nD i)] = some (decide (j < e ∧ T.getD j 0 ∈ A)) := fun j => by
    by_cases h : j < e
    · have hg : T[j]? = some (T.getD j 0) := by
        rw [List.getD_eq_getElem?_getD, List.getElem?_eq_getElem (by omega)]; rfl
      have g1 := tx_get hT hg
      have g2 := tx_in (c := T.getD j 0) (A := A)
      have h' : ((j : Int) < (e : Int)) ↔ True := iff_true_intro (by omega)
      simp -implicitDefEqProofs (disch := first | omega | (simp only [List.length_map, List.length_cons, List.length_nil, List.length_append, List.length_range, List.length_replicate]; omega)) only [sq_e, sqK_nx, sqK_ret, sqK_bk, sqK_ct, skip_e, setE_e, newE_e, rt_e, brk_e, cnt_e, ifS_e, ifK_t, ifK_f, ifX_t, ifX_f, ifT_t, ifT_f, fncK_ret, fncK_nx, ctK_nx, ctK_ct, ctK_ret, lcK_e, lstK_e, tupK_e, tupK_f, tupK_cat, ftupD_lst, ftupE_e, lenD_f, getD_f, addD_ff, blK_e, ovK_e, vaK_e, ife_e, var_e, ovar_e, cst_e, op1_e, op2_e, op3_e, aN_e, aC_e, tupE_e, lstE_e, cal_e, f1_e, cmp_e, flip_e, neg_e, chn_e, boo_e, tes_e, ff_e, tt_e, andT_e, orT_e, notT_e, fX_e, tX_e, andV_e, orV_e, notV_e, isN_e, yes_e, asg_e, gD_n, gD_t, gDs_n, gDs_c, frz_e, mov_e, movO_e, forE_e, iLst_e, iTp_e, iRng_e, one1_c, two2_c, iZp_e, lcE_e, lc2E_e, wip_n, wip_c, noOwn_n, noOwn_c, noO_no, noO_val, fnc_e, ini_e, met_e, fld_e, slE_e, prK_e, prt_e, prN_e, dic1_e, appK_e, app_e, extK_e, ext_e, stK_e, drpA_e, drpK_e, addD_int, addD_tup, addD_lst, subD_int, mulD_l, mulD_r, modD_int, divD_int, intD_int, intD_bl, ltD_int, leD_int, eqD_int, eqD_bl, lenD_lst, lenD_tup, lenD_scr, tupD_lst, listD_lst, listD_tup, revL_lst, isBool_bl, max2_int, isBD_bl, revT_tup, iEnum_e, iItm_e, iSq_e, isC_i, isLst_l, addI_int, subI_int, iZm_e, seqK_t, seqK_l, dcE_e, getD_l, getD_t, rngL_n, rngL_i, rngL_2, sumL_ints, sumT_tup, sumT_lst, allL_bls, anyL_bls, lcT_t, lcT_f, set_0, set_s, szL_le, szL_lt, Option.bind_some, Option.map_some, List.map_cons, List.map_nil, List.length_cons, List.length_nil, List.length_map, List.length_range, List.getElem?_cons_zero, List.getElem?_cons_succ, List.getElem?_map, List.replicate_succ, List.replicate_zero, List.cons_append, List.nil_append, if_true, if_false, ite_true, ite_false, Bool.and_true, Bool.true_and, Bool.and_self, and_true, true_and, and_self, decide_true, decide_false, Bool.not_true, Bool.not_false, eq_self, Int.toNat_natCast, Int.toNat_zero, Nat.reduceAdd, Nat.reduceSub, Nat.reduceLeDiff, Nat.reduceMul, Nat.reduceEqDiff, Int.reduceToNat, Nat.zero_add, Nat.reduceLT, Int.reduceLT, Int.reduceLE, Int.reduceEq, Int.reduceNe, Int.reduceMul, Int.reduceAdd, Int.reducePow, Bool.false_eq_true, reduceCtorEq, not_true_eq_false, not_false_eq_true, ne_eq, Option.getD_some, if_pos, List.length_append, List.length_replicate, msI, maI, msT, maT, msP, maR, sv_e, slfK_e, rd_at, rd_end, rd_text, h', g1, g2]
      simp [h]
    · have h' : ((j : Int) < (e : Int)) ↔ False := iff_false_intro (by omega)
      simp_arith [sv_e, slfK_e, rd_at, rd_end, rd_text, h']
      simp [h]
  obtain ⟨env, m, hw, ⟨j, rfl, hij, hje, _, hsp⟩, hf⟩ := whl_r (t := (andT (cmp ltD (fld ["Reader"] "at" (sv 0)) (fld ["Reader"] "end" (sv 0))) (cmp inS (op2 getD (fld ["Reader"] "text" (sv 0)) (fld ["Reader"] "at" (sv 0))) (var 1)))) (b := augF 0 "Reader" "at" (cst (.int 1))) (fun m env => ∃ j, env = [.slf (rdD sp T ln j e), .val (txD A), .val (nD i)] ∧ i ≤ j ∧ j ≤ e ∧ m = e - j ∧ ∀ k, i ≤ k → k < j → T.getD k 0 ∈ A)
    (by
      rintro m env ⟨j, rfl, hij, hje, hm, hsp⟩
      refine ⟨_, tst j, fun hc => ?_⟩
      have hc := of_decide_eq_true hc
      refine ⟨_, e - (j + 1), aug_rd (i := j) (k := 1) rfl rfl, by omega, j + 1, rfl, by omega, by omega, rfl, fun k h1 h2 => ?_⟩
      by_cases hk : k = j
      · rw [hk]; exact hc.2
      · exact hsp k h1 (by omega))
    (e - i) szL [.slf (rdD sp T ln i e), .val (txD A), .val (nD i)] ⟨i, rfl, Nat.le_refl _, hi, rfl, fun k h1 h2 => by omega⟩ (by unfold szL; omega)
  rw [tst j] at hf
  have hf := of_decide_eq_false (Option.some.inj hf)
  refine ⟨j, hij, hje, hsp, fun h z => hf ⟨h, z⟩, ?_⟩
  have hw' : whE (andT (cmp ltD (fld ["Reader"] "at" (sv 0)) (fld ["Reader"] "end" (sv 0))) (cmp inS (op2 getD (fld ["Reader"] "text" (sv 0)) (fld ["Reader"] "at" (sv 0))) (var 1))) (augF 0 "Reader" "at" (cst (.int 1))) [.slf (rdD sp T ln i e), .val (txD A), .val (nD i)] = some (.nx [.slf (rdD sp T ln j e), .val (txD A), .val (nD i)]) := hw
  have hs := tx_slc (T := T) hT hij (by omega)
  unfold F_Reader_run
  rw [fncS_e (j := 0) (m := 2) (n := 3) (ds := [rdD sp T ln i e, txD A]) rfl (by omega)]
  simp_arith [List.set, List.getD, sv_e, slfK_e, rd_at, hw', rd_text, hs, rtS_e, puE_e, fnS_ret]
end

def DG : List Nat := [48, 49, 50, 51, 52, 53, 54, 55, 56, 57]
def LTR : List Nat := (List.range 26).map fun k => 97 + k
theorem dg_tx : (D.str "0123456789") = txD DG := rfl
theorem lt_tx : (D.str "abcdefghijklmnopqrstuvwxyz") = txD LTR := rfl
theorem no_tx : (D.str "") = txD [] := rfl
section
variable {sp ln : D} {T : List Nat} {i e : Nat}
theorem next_at (hT : T.length ≤ 100000) (hC : ∀ c ∈ T, c < 128) (he : e ≤ T.length) (hi : i < e) (h32 : T.getD i 0 ≠ 32) : F_Reader_next_char [rdD sp T ln i e] = some (.tup [txD [T.getD i 0], rdD sp T ln i e]) := by
  obtain ⟨j, h1, h2, h3, h4, hn⟩ := next_eq (sp := sp) (ln := ln) hT hC he (Nat.le_of_lt hi)
  have hj : j = i := by
    refine Classical.byContradiction fun hne => ?_
    have := h3 i (Nat.le_refl _) (by omega)
    rw [List.getD_eq_getElem?_getD, this] at h32
    exact h32 rfl
  subst hj
  rw [if_pos hi] at hn
  exact hn
theorem run_at (hT : T.length ≤ 100000) (he : e ≤ T.length) (A : List Nat) {j : Nat} (hij : i ≤ j) (hje : j ≤ e) (hall : ∀ k, i ≤ k → k < j → T.getD k 0 ∈ A) (hend : j < e → T.getD j 0 ∉ A) : F_Reader_run [rdD sp T ln i e, txD A] = some (.tup [txD ((T.take j).drop i), rdD sp T ln j e]) := by
  obtain ⟨j', h1, h2, h3, h4, hr⟩ := run_eq (sp := sp) (ln := ln) hT he (Nat.le_trans hij hje) A
  have : j' = j := by
    rcases Nat.lt_trichotomy j' j with h | h | h
    · exact absurd (hall j' h1 h) (h4 (by omega))
    · exact h
    · exact absurd (h3 j hij h) (hend (by omega))
  subst this
  exact hr
theorem number_eq (hT : T.length ≤ 100000) (hC : ∀ c ∈ T, c < 128) (he : e ≤ T.length) {j : Nat} (hij : i < j) (hje : j ≤ e) (hall : ∀ k, i ≤ k → k < j → T.getD k 0 ∈ DG) (hend : j < e → T.getD j 0 ∉ DG ∧ T.getD j 0 ∉ LTR) (h9 : j - i ≤ 9) : F_Reader_number [rdD sp T ln i e] = some (.tup [.int (digV ((T.take j).drop i)), rdD sp T ln j e]) := by
  have hi := hall i (Nat.le_refl _) hij
  have h32 : T.getD i 0 ≠ 32 := fun z => by rw [z] at hi; exact absurd hi (by decide)
  have hn := next_at (sp := sp) (ln := ln) hT hC he (by omega) h32
  have hm := eMet_rd (m := "next_char") (F := F_Reader_next_char) (a := aN) (env := [.slf (rdD sp T ln i e), .no, .no]) (ys := []) rfl rfl hn (by decide)
  have hr := run_at (sp := sp) (ln := ln) (A := DG) hT he (Nat.le_of_lt hij) hje hall fun h => (hend h).1
  have hm2 := eMet_rd (m := "run") (F := F_Reader_run) (a := (aC (cst (txD DG)) aN)) (env := [.slf (rdD sp T ln i e), .val (nD i), .no]) (ys := [txD DG]) rfl rfl hr (by decide)
  have hc : T.getD i 0 < 128 := by
    rw [List.getD_eq_getElem?_getD, List.getElem?_eq_getElem (by omega)]
    exact hC _ (List.getElem_mem _)
  have q1 := tx_c hc [] (by simp)
  rw [show decide ([T.getD i 0] = ([] : List Nat)) = false from by simp] at q1
  have q2 := tx_in (c := T.getD i 0) (A := DG)
  rw [decide_eq_true hi] at q2
  have hlen : ((T.take j).drop i).length = j - i := by rw [List.length_drop, List.length_take]; omega
  have hall2 : ∀ c ∈ (T.take j).drop i, c ∈ DG := fun c hc => by
    obtain ⟨k, hk, rfl⟩ := List.getElem_of_mem hc
    have := hall (i + k) (by omega) (by omega)
    rw [List.getD_eq_getElem?_getD, List.getElem?_eq_getElem (by omega)] at this
    rw [List.getElem_drop, List.getElem_take]
    exact this
  have hdg : ∀ c ∈ DG, 48 ≤ c ∧ c ≤ 57 := by decide
  have hl : lenD (txD ((T.take j).drop i)) = some (.int ((j - i : Nat) : Int)) := by
    rw [← hlen]
    simp [lenD, txD, Str.length]
    unfold szL
    omega
  have hint : intS (txD ((T.take j).drop i)) = some (.int (digV ((T.take j).drop i))) := by
    show (if _ then _ else none) = _
    rw [if_pos]
    refine ⟨fun z => ?_, ?_, ?_⟩
    · have z : (T.take j).drop i = [] := by simpa using z
      rw [z] at hlen
      simp at hlen
      omega
    · rw [List.all_eq_true]
      intro c hc
      have := hdg c (hall2 c (by simpa using hc))
      simp [this.1, this.2]
    · show ((T.take j).drop i).toArray.size ≤ 640
      simp
      omega
  generalize T.getD i 0 = c0 at hm q1 q2
  have h9' : (9 < ((j - i : Nat) : Int)) ↔ False := iff_false_intro (by omega)
  unfold F_Reader_number
  rw [fncS_e (j := 0) (m := 1) (n := 3) (ds := [rdD sp T ln i e]) rfl (by omega)]
  by_cases hje2 : j < e
  · have hg : T[j]? = some (T.getD j 0) := by
      rw [List.getD_eq_getElem?_getD, List.getElem?_eq_getElem (by omega)]; rfl
    have g1 := tx_get hT hg
    have g2 := tx_in (c := T.getD j 0) (A := LTR)
    rw [decide_eq_false (hend hje2).2] at g2
    generalize T.getD j 0 = c1 at g1 g2
    have h' : ((j : Int) < (e : Int)) ↔ True := iff_true_intro (by omega)
    simp -implicitDefEqProofs (disch := first | omega | (simp only [List.length_map, List.length_cons, List.length_nil, List.length_append, List.length_range, List.length_replicate]; omega)) only [sq_e, sqK_nx, sqK_ret, sqK_bk, sqK_ct, skip_e, setE_e, newE_e, rt_e, brk_e, cnt_e, ifS_e, ifK_t, ifK_f, ifX_t, ifX_f, ifT_t, ifT_f, fncK_ret, fncK_nx, ctK_nx, ctK_ct, ctK_ret, lcK_e, lstK_e, tupK_e, tupK_f, tupK_cat, ftupD_lst, ftupE_e, lenD_f, getD_f, addD_ff, blK_e, ovK_e, vaK_e, ife_e, var_e, ovar_e, cst_e, op1_e, op2_e, op3_e, aN_e, aC_e, tupE_e, lstE_e, cal_e, f1_e, cmp_e, flip_e, neg_e, chn_e, boo_e, tes_e, ff_e, tt_e, andT_e, orT_e, notT_e, fX_e, tX_e, andV_e, orV_e, notV_e, isN_e, yes_e, asg_e, gD_n, gD_t, gDs_n, gDs_c, frz_e, mov_e, movO_e, forE_e, iLst_e, iTp_e, iRng_e, one1_c, two2_c, iZp_e, lcE_e, lc2E_e, wip_n, wip_c, noOwn_n, noOwn_c, noO_no, noO_val, fnc_e, ini_e, met_e, fld_e, slE_e, prK_e, prt_e, prN_e, dic1_e, appK_e, app_e, extK_e, ext_e, stK_e, drpA_e, drpK_e, addD_int, addD_tup, addD_lst, subD_int, mulD_l, mulD_r, modD_int, divD_int, intD_int, intD_bl, ltD_int, leD_int, eqD_int, eqD_bl, lenD_lst, lenD_tup, lenD_scr, tupD_lst, listD_lst, listD_tup, revL_lst, isBool_bl, max2_int, isBD_bl, revT_tup, iEnum_e, iItm_e, iSq_e, isC_i, isLst_l, addI_int, subI_int, iZm_e, seqK_t, seqK_l, dcE_e, getD_l, getD_t, rngL_n, rngL_i, rngL_2, sumL_ints, sumT_tup, sumT_lst, allL_bls, anyL_bls, lcT_t, lcT_f, set_0, set_s, szL_le, szL_lt, Option.bind_some, Option.map_some, List.map_cons, List.map_nil, List.length_cons, List.length_nil, List.length_map, List.length_range, List.getElem?_cons_zero, List.getElem?_cons_succ, List.getElem?_map, List.replicate_succ, List.replicate_zero, List.cons_append, List.nil_append, if_true, if_false, ite_true, ite_false, Bool.and_true, Bool.true_and, Bool.and_self, and_true, true_and, and_self, decide_true, decide_false, Bool.not_true, Bool.not_false, eq_self, Int.toNat_natCast, Int.toNat_zero, Nat.reduceAdd, Nat.reduceSub, Nat.reduceLeDiff, Nat.reduceMul, Nat.reduceEqDiff, Int.reduceToNat, Nat.zero_add, Nat.reduceLT, Int.reduceLT, Int.reduceLE, Int.reduceEq, Int.reduceNe, Int.reduceMul, Int.reduceAdd, Int.reducePow, Bool.false_eq_true, reduceCtorEq, not_true_eq_false, not_false_eq_true, ne_eq, Option.getD_some, if_pos, List.length_append, List.length_replicate, msI, maI, msT, maT, msP, maR, List.set, List.getD, ifE_e, orE_e, cmpE_e, hm, puE_e, no_tx, dg_tx, lt_tx, Option.map_some, q1, q2, neg_e, sv_e, slfK_e, rd_at, rd_end, rd_text, setEe_e, hm2, hl, h9', h', g1, g2, hint, rtS_e, fnS_ret]
  · have h' : ((j : Int) < (e : Int)) ↔ False := iff_false_intro (by omega)
    simp_arith [List.set, List.getD, ifE_e, orE_e, cmpE_e, hm, puE_e, no_tx, dg_tx, lt_tx, Option.map_some, q1, q2, neg_e, sv_e, slfK_e, rd_at, rd_end, rd_text, setEe_e, hm2, hl, h9', h', hint, rtS_e, fnS_ret]
end

theorem inL_str {ns : List Str} (hp : Pl ns) {c : Str} (hc : c ∈ ns) : inL (.str c) (.lst (ns.map .str)) = some true := by
  have h1 : D.plains 59 (ns.map .str) = true := plains_all fun d hd => by
    obtain ⟨x, hx, rfl⟩ := List.mem_map.mp hd
    exact (hp x hx).1
  simp only [inL, (hp c hc).2, h1, Bool.and_self, if_true]
  congr 1
  rw [List.any_eq_true]
  exact ⟨.str c, List.mem_map.mpr ⟨c, hc, rfl⟩, by simp [eqv_str]⟩
theorem ld_add : addD (txD LTR) (txD DG) = some (txD (LTR ++ DG)) := by
  have h : (⟨LTR.toArray⟩ : Str).length + (⟨DG.toArray⟩ : Str).length ≤ szL := by decide +kernel
  unfold addD txD
  simp only [if_pos h]
  rfl
section
variable {ln : D} {T : List Nat} {i e : Nat} {p : Nat} {ns : List Str}
theorem name_eq (hP : Pl ns) (hT : T.length ≤ 100000) (he : e ≤ T.length) {j : Nat} (hij : i < j) (hje : j ≤ e) (hall : ∀ k, i ≤ k → k < j → T.getD k 0 ∈ LTR ++ DG) (hend : j < e → T.getD j 0 ∉ LTR ++ DG) (h12 : j - i ≤ 12) {w : Str} (hw : txD ((T.take j).drop i) = .str w) (hwn : w ∈ ns) : F_Reader_name [rdD (spcD p ns) T ln i e] = some (.tup [nD (idxf ns w), rdD (spcD p ns) T ln j e]) := by
  have hr := run_at (sp := spcD p ns) (ln := ln) (A := LTR ++ DG) hT he (Nat.le_of_lt hij) hje hall hend
  have hm2 := eMet_rd (m := "run") (F := F_Reader_run) (a := (aC (op2 addD (cst (txD LTR)) (cst (txD DG))) aN)) (env := [.slf (rdD (spcD p ns) T ln i e), .val (nD i), .no]) (ys := [txD (LTR ++ DG)]) rfl (by simp_arith [ld_add]) hr (by decide)
  have hlen : ((T.take j).drop i).length = j - i := by rw [List.length_drop, List.length_take]; omega
  have hl : lenD (txD ((T.take j).drop i)) = some (.int ((j - i : Nat) : Int)) := by
    rw [← hlen]
    simp [lenD, txD, Str.length]
    unfold szL
    omega
  rw [hw] at hm2 hl
  have h12' : (12 < ((j - i : Nat) : Int)) ↔ False := iff_false_intro (by omega)
  have q1 := inL_str hP hwn
  have q2 := indL_str hP hwn
  unfold F_Reader_name
  rw [fncS_e (j := 0) (m := 1) (n := 3) (ds := [rdD (spcD p ns) T ln i e]) rfl (by omega)]
  simp_arith [List.set, List.getD, sv_e, slfK_e, rd_at, setEe_e, dg_tx, lt_tx, hm2, hl, h12', neg_e, rd_space, sp_names, q1, q2, puE_e, rtS_e, fnS_ret]
theorem base_num (t : Fn) {i0 : Nat} (hn : F_Reader_next_char [rdD (spcD p ns) T ln i0 e] = some (.tup [txD [T.getD i 0], rdD (spcD p ns) T ln i e])) (hns : 1 ≤ ns.length ∧ ns.length ≤ 1000) (hp : 2 ≤ p) (hT : T.length ≤ 100000) (hC : ∀ c ∈ T, c < 128) (he : e ≤ T.length) {j : Nat} (hij : i < j) (hje : j ≤ e) (hall : ∀ k, i ≤ k → k < j → T.getD k 0 ∈ DG) (hend : j < e → T.getD j 0 ∉ DG ∧ T.getD j 0 ∉ LTR) (h9 : j - i ≤ 9) : F_Reader_base_g t [rdD (spcD p ns) T ln i0 e] = some (.tup [pD (mk p [(List.replicate ns.length 0, ((digV ((T.take j).drop i) : Nat) : Int))]), rdD (spcD p ns) T ln j e]) := by
  have hi := hall i (Nat.le_refl _) hij
  have hm := eMet_rd (m := "next_char") (F := F_Reader_next_char) (a := aN) (env := [.slf (rdD (spcD p ns) T ln i0 e), .no, .no]) (ys := []) rfl rfl hn (by decide)
  have hnum := number_eq (sp := spcD p ns) (ln := ln) hT hC he hij hje hall hend h9
  have hm2 := fun s1 : DSlot => eMet_rd (m := "number") (F := F_Reader_number) (a := aN) (env := [.slf (rdD (spcD p ns) T ln i e), s1, .no]) (ys := []) rfl rfl hnum (by decide)
  have hc : T.getD i 0 < 128 := by
    rw [List.getD_eq_getElem?_getD, List.getElem?_eq_getElem (by omega)]
    exact hC _ (List.getElem_mem _)
  have q1 := tx_c hc [] (by simp)
  rw [show decide ([T.getD i 0] = ([] : List Nat)) = false from by simp] at q1
  have q2 := tx_in (c := T.getD i 0) (A := DG)
  rw [decide_eq_true hi] at q2
  have hcst := const_eq hp hns ((digV ((T.take j).drop i) : Nat) : Int)
  generalize T.getD i 0 = c0 at hm q1 q2
  generalize ((digV ((T.take j).drop i) : Nat) : Int) = z at hm2 hcst ⊢
  unfold F_Reader_base_g
  rw [fncS_e (j := 0) (m := 1) (n := 3) (ds := [rdD (spcD p ns) T ln i0 e]) rfl (by omega)]
  simp_arith [List.set, List.getD, setEe_e, hm, no_tx, dg_tx, lt_tx, q1, q2, neg_e, calE_e, eC_e, eN_e, puE_e, sv_e, slfK_e, rd_space, hm2, hcst, rtS_e, fnS_ret]
theorem base_name (t : Fn) {i0 : Nat} (hn : F_Reader_next_char [rdD (spcD p ns) T ln i0 e] = some (.tup [txD [T.getD i 0], rdD (spcD p ns) T ln i e])) (hP : Pl ns) (hns : 1 ≤ ns.length ∧ ns.length ≤ 1000) (hp : 2 ≤ p) (hT : T.length ≤ 100000) (hC : ∀ c ∈ T, c < 128) (he : e ≤ T.length) {j : Nat} (hij : i < j) (hje : j ≤ e) (hl0 : T.getD i 0 ∈ LTR) (hall : ∀ k, i ≤ k → k < j → T.getD k 0 ∈ LTR ++ DG) (hend : j < e → T.getD j 0 ∉ LTR ++ DG) (h12 : j - i ≤ 12) {w : Str} (hw : txD ((T.take j).drop i) = .str w) (hwn : w ∈ ns) : F_Reader_base_g t [rdD (spcD p ns) T ln i0 e] = some (.tup [pD (unkP p ns.length (idxf ns w)), rdD (spcD p ns) T ln j e]) := by
  have hm := eMet_rd (m := "next_char") (F := F_Reader_next_char) (a := aN) (env := [.slf (rdD (spcD p ns) T ln i0 e), .no, .no]) (ys := []) rfl rfl hn (by decide)
  have hnam := name_eq (p := p) (ln := ln) hP hT he hij hje hall hend h12 hw hwn
  have hm2 := fun s1 : DSlot => eMet_rd (m := "name") (F := F_Reader_name) (a := aN) (env := [.slf (rdD (spcD p ns) T ln i e), s1, .no]) (ys := []) rfl rfl hnam (by decide)
  have hc : T.getD i 0 < 128 := by
    rw [List.getD_eq_getElem?_getD, List.getElem?_eq_getElem (by omega)]
    exact hC _ (List.getElem_mem _)
  have q1 := tx_c hc [] (by simp)
  rw [show decide ([T.getD i 0] = ([] : List Nat)) = false from by simp] at q1
  have q2 := tx_in (c := T.getD i 0) (A := DG)
  have hnd : ∀ c ∈ LTR, c ∉ DG := by decide
  rw [decide_eq_false (hnd _ hl0)] at q2
  have q3 := tx_in (c := T.getD i 0) (A := LTR)
  rw [decide_eq_true hl0] at q3
  have hunk := unknown_eq hp hns (idxf ns w)
  generalize T.getD i 0 = c0 at hm q1 q2 q3
  unfold F_Reader_base_g
  rw [fncS_e (j := 0) (m := 1) (n := 3) (ds := [rdD (spcD p ns) T ln i0 e]) rfl (by omega)]
  simp_arith [List.set, List.getD, setEe_e, hm, no_tx, dg_tx, lt_tx, q1, q2, q3, neg_e, calE_e, eC_e, eN_e, puE_e, sv_e, slfK_e, rd_space, hm2, hunk, rtS_e, fnS_ret]
end

inductive Whl (t : Et) (b : Sx) : DEnv → DEnv → Nat → Prop
  | stop {e e' : DEnv} : t e = some (false, e') → Whl t b e e' 1
  | step {e e1 e2 e' : DEnv} {n : Nat} : t e = some (true, e1) → b e1 = some (.nx e2) → Whl t b e2 e' n → Whl t b e e' (n + 1)
theorem Whl.run {t : Et} {b : Sx} : ∀ {e e' : DEnv} {n : Nat}, Whl t b e e' n → ∀ m, n ≤ m → whlE t b m e = some (.nx e')
  | _, _, _, .stop h, m, hm => by
    obtain ⟨m, rfl⟩ : ∃ k, m = k + 1 := ⟨m - 1, by omega⟩
    unfold whlE
    rw [h]; rfl
  | _, _, _, .step h1 h2 h3, m, hm => by
    obtain ⟨m, rfl⟩ : ∃ k, m = k + 1 := ⟨m - 1, by omega⟩
    unfold whlE
    rw [h1, Option.bind_some]
    show ((b _).bind _) = _
    rw [h2, Option.bind_some]
    exact Whl.run h3 m (by omega)
inductive WhR (b : Sx) : DEnv → D → Nat → Prop
  | stop {e : DEnv} {d : D} : b e = some (.ret d) → WhR b e d 1
  | step {e e2 : DEnv} {d : D} {n : Nat} : b e = some (.nx e2) → WhR b e2 d n → WhR b e d (n + 1)
theorem WhR.run {b : Sx} : ∀ {e : DEnv} {d : D} {n : Nat}, WhR b e d n → ∀ m, n ≤ m → whl (tes (cst (.bl true))) b m e = some (.ret d)
  | _, _, _, .stop h, m, hm => by
    obtain ⟨m, rfl⟩ : ∃ k, m = k + 1 := ⟨m - 1, by omega⟩
    unfold whl
    show ((b _).bind _) = _
    rw [h]; rfl
  | _, _, _, .step h1 h2, m, hm => by
    obtain ⟨m, rfl⟩ : ∃ k, m = k + 1 := ⟨m - 1, by omega⟩
    unfold whl
    show ((b _).bind _) = _
    rw [h1, Option.bind_some]
    exact WhR.run h2 m (by omega)
section
variable {sp ln : D} {T : List Nat} {i j e : Nat} {t : Fn}
theorem up_tx : (D.str "^") = txD [94] := rfl
theorem st_tx : (D.str "*") = txD [42] := rfl
theorem pl_tx : (D.str "+") = txD [43] := rfl
theorem mi_tx : (D.str "-") = txD [45] := rfl
theorem factor_0 {d : D} {j2 : Nat} (hb : F_Reader_base_g t [rdD sp T ln i e] = some (.tup [d, rdD sp T ln j e])) (ha : F_Reader_accept [rdD sp T ln j e, txD [94]] = some (.tup [.bl false, rdD sp T ln j2 e])) : F_Reader_factor_g t [rdD sp T ln i e] = some (.tup [d, rdD sp T ln j2 e]) := by
  have hm := eMet_rd (m := "base") (F := F_Reader_base_g t) (a := aN) (env := [.slf (rdD sp T ln i e), .no]) (ys := []) rfl rfl hb (by decide)
  have hm2 := eMet_rd (m := "accept") (F := F_Reader_accept) (a := (aC (cst (txD [94])) aN)) (env := [.slf (rdD sp T ln j e), .val d]) (ys := [txD [94]]) rfl rfl ha (by decide)
  unfold F_Reader_factor_g
  rw [fncS_e (j := 0) (m := 1) (n := 2) (ds := [rdD sp T ln i e]) rfl (by omega)]
  simp_arith [List.set, List.getD, setEe_e, hm, up_tx, ifE_e, tesE_e, hm2, blP_e, puE_e, slfK_e, rtS_e, fnS_ret]
theorem factor_1 {d r z : D} {j1 j2 : Nat} (hb : F_Reader_base_g t [rdD sp T ln i e] = some (.tup [d, rdD sp T ln j e])) (ha : F_Reader_accept [rdD sp T ln j e, txD [94]] = some (.tup [.bl true, rdD sp T ln j1 e])) (hn : F_Reader_number [rdD sp T ln j1 e] = some (.tup [z, rdD sp T ln j2 e])) (hr : F_raised [sp, d, z] = some r) : F_Reader_factor_g t [rdD sp T ln i e] = some (.tup [r, rdD sp T ln j2 e]) := by
  have hm := eMet_rd (m := "base") (F := F_Reader_base_g t) (a := aN) (env := [.slf (rdD sp T ln i e), .no]) (ys := []) rfl rfl hb (by decide)
  have hm2 := eMet_rd (m := "accept") (F := F_Reader_accept) (a := (aC (cst (txD [94])) aN)) (env := [.slf (rdD sp T ln j e), .val d]) (ys := [txD [94]]) rfl rfl ha (by decide)
  have hm3 := eMet_rd (m := "number") (F := F_Reader_number) (a := aN) (env := [.slf (rdD sp T ln j1 e), .val d]) (ys := []) rfl rfl hn (by decide)
  unfold F_Reader_factor_g
  rw [fncS_e (j := 0) (m := 1) (n := 2) (ds := [rdD sp T ln i e]) rfl (by omega)]
  simp_arith [List.set, List.getD, setEe_e, hm, up_tx, ifE_e, tesE_e, hm2, blP_e, puE_e, sv_e, slfK_e, rd_space, calE_e, eC_e, eN_e, hm3, hr, rtS_e, fnS_ret]
inductive Facs (sp ln : D) (T : List Nat) (e : Nat) (t : Fn) : Nat → D → Nat → D → Nat → Prop
  | stop {j j' : Nat} {d : D} : F_Reader_accept [rdD sp T ln j e, txD [42]] = some (.tup [.bl false, rdD sp T ln j' e]) → Facs sp ln T e t j d j' d 1
  | step {j j1 j2 j' n : Nat} {d f d2 d' : D} : F_Reader_accept [rdD sp T ln j e, txD [42]] = some (.tup [.bl true, rdD sp T ln j1 e]) → F_Reader_factor_g t [rdD sp T ln j1 e] = some (.tup [f, rdD sp T ln j2 e]) → F_times [sp, d, f] = some d2 → Facs sp ln T e t j2 d2 j' d' n → Facs sp ln T e t j d j' d' (n + 1)
theorem Facs.whl {j j' n : Nat} {d d' : D} (h : Facs sp ln T e t j d j' d' n) : Whl (tesE (eMet "Reader" "accept" F_Reader_accept 0 (aC (cst (txD [42])) aN))) (setEe 1 (calE F_times (eC (puE (fld ["Reader"] "space" (sv 0))) (eC (puE (var 1)) (eC (eMet "Reader" "factor" (F_Reader_factor_g t) 0 aN) eN))))) [.slf (rdD sp T ln j e), .val d] [.slf (rdD sp T ln j' e), .val d'] n := by
  induction h with
  | stop h =>
    have hm2 := fun d : D => eMet_rd (m := "accept") (F := F_Reader_accept) (a := (aC (cst (txD [42])) aN)) (env := [.slf (rdD sp T ln _ e), .val d]) (ys := [txD [42]]) rfl rfl h (by decide)
    refine .stop ?_
    rw [tesE_e, hm2]
    rfl
  | @step j j1 j2 j' n d f d2 d' h1 h2 h3 _ ih =>
    have hm2 := eMet_rd (m := "accept") (F := F_Reader_accept) (a := (aC (cst (txD [42])) aN)) (env := [.slf (rdD sp T ln j e), .val d]) (ys := [txD [42]]) rfl rfl h1 (by decide)
    have hm3 := eMet_rd (m := "factor") (F := F_Reader_factor_g t) (a := aN) (env := [.slf (rdD sp T ln j1 e), .val d]) (ys := []) rfl rfl h2 (by decide)
    refine .step (e1 := [.slf (rdD sp T ln j1 e), .val d]) ?_ ?_ ih
    · rw [tesE_e, hm2]
      rfl
    · simp_arith [setEe_e, calE_e, eC_e, eN_e, puE_e, sv_e, slfK_e, rd_space, hm3, List.set, h3]
theorem product_eq {j0 j' n : Nat} {d0 d' : D} (hf : F_Reader_factor_g t [rdD sp T ln i e] = some (.tup [d0, rdD sp T ln j0 e])) (h : Facs sp ln T e t j0 d0 j' d' n) (hn : n ≤ 1000) : F_Reader_product_g t [rdD sp T ln i e] = some (.tup [d', rdD sp T ln j' e]) := by
  have hm := eMet_rd (m := "factor") (F := F_Reader_factor_g t) (a := aN) (env := [.slf (rdD sp T ln i e), .no]) (ys := []) rfl rfl hf (by decide)
  have hw : whEe (tesE (eMet "Reader" "accept" F_Reader_accept 0 (aC (cst (txD [42])) aN))) (setEe 1 (calE F_times (eC (puE (fld ["Reader"] "space" (sv 0))) (eC (puE (var 1)) (eC (eMet "Reader" "factor" (F_Reader_factor_g t) 0 aN) eN))))) [.slf (rdD sp T ln j0 e), .val d0] = some (.nx [.slf (rdD sp T ln j' e), .val d']) := h.whl.run szL (by unfold szL; omega)
  unfold F_Reader_product_g
  rw [fncS_e (j := 0) (m := 1) (n := 2) (ds := [rdD sp T ln i e]) rfl (by omega)]
  simp_arith [List.set, List.getD, setEe_e, hm, st_tx, hw, puE_e, slfK_e, rtS_e, fnS_ret]
end

inductive Sums (sp ln : D) (T : List Nat) (e : Nat) (t : Fn) : Nat → D → Nat → D → Nat → Prop
  | stop {j j1 j2 : Nat} {d : D} : F_Reader_accept [rdD sp T ln j e, txD [43]] = some (.tup [.bl false, rdD sp T ln j1 e]) → F_Reader_accept [rdD sp T ln j1 e, txD [45]] = some (.tup [.bl false, rdD sp T ln j2 e]) → Sums sp ln T e t j d j2 d 1
  | step {j j1 j2 j' n : Nat} {d f d2 d' : D} : F_Reader_accept [rdD sp T ln j e, txD [43]] = some (.tup [.bl true, rdD sp T ln j1 e]) → F_Reader_product_g t [rdD sp T ln j1 e] = some (.tup [f, rdD sp T ln j2 e]) → F_plus [sp, d, f] = some d2 → Sums sp ln T e t j2 d2 j' d' n → Sums sp ln T e t j d j' d' (n + 1)
def sumB (t : Fn) : Sx := (ifE (tesE (eMet "Reader" "accept" F_Reader_accept 0 (aC (cst (txD [43])) aN)))
      (setEe 1 (calE F_plus (eC (puE (fld ["Reader"] "space" (sv 0))) (eC (puE (var 1)) (eC (eMet "Reader" "product" (F_Reader_product_g t) 0 aN) eN)))))
      (ifE (tesE (eMet "Reader" "accept" F_Reader_accept 0 (aC (cst (txD [45])) aN)))
      (setEe 1 (calE F_minus (eC (puE (fld ["Reader"] "space" (sv 0))) (eC (puE (var 1)) (eC (eMet "Reader" "product" (F_Reader_product_g t) 0 aN) eN)))))
      (rtS 0 (puE (var 1)))))
section
variable {sp ln : D} {T : List Nat} {i j e : Nat} {t : Fn}
theorem Sums.whl {j j' n : Nat} {d d' : D} (h : Sums sp ln T e t j d j' d' n) : WhR (sumB t) [.slf (rdD sp T ln j e), .val d] (.tup [d', rdD sp T ln j' e]) n := by
  induction h with
  | @stop j j1 j2 d h1 h2 =>
    have hm1 := eMet_rd (m := "accept") (F := F_Reader_accept) (a := (aC (cst (txD [43])) aN)) (env := [.slf (rdD sp T ln j e), .val d]) (ys := [txD [43]]) rfl rfl h1 (by decide)
    have hm2 := eMet_rd (m := "accept") (F := F_Reader_accept) (a := (aC (cst (txD [45])) aN)) (env := [.slf (rdD sp T ln j1 e), .val d]) (ys := [txD [45]]) rfl rfl h2 (by decide)
    refine .stop ?_
    unfold sumB
    simp_arith [ifE_e, tesE_e, hm1, hm2, blP_e, List.set, puE_e, slfK_e, rtS_e]
  | @step j j1 j2 j' n d f d2 d' h1 h2 h3 _ ih =>
    have hm1 := eMet_rd (m := "accept") (F := F_Reader_accept) (a := (aC (cst (txD [43])) aN)) (env := [.slf (rdD sp T ln j e), .val d]) (ys := [txD [43]]) rfl rfl h1 (by decide)
    have hm3 := eMet_rd (m := "product") (F := F_Reader_product_g t) (a := aN) (env := [.slf (rdD sp T ln j1 e), .val d]) (ys := []) rfl rfl h2 (by decide)
    refine .step ?_ ih
    unfold sumB
    simp_arith [ifE_e, tesE_e, hm1, blP_e, setEe_e, calE_e, eC_e, eN_e, puE_e, sv_e, slfK_e, rd_space, hm3, List.set, h3]
theorem whole_eq {d : D} {j2 : Nat} (ht : F_Reader_terms [rdD sp T ln i e] = some (.tup [d, rdD sp T ln j e])) (hn : F_Reader_next_char [rdD sp T ln j e] = some (.tup [txD [], rdD sp T ln j2 e])) : F_Reader_whole [rdD sp T ln i e] = some (.tup [d, rdD sp T ln j2 e]) := by
  have hm := eMet_rd (m := "terms") (F := F_Reader_terms) (a := aN) (env := [.slf (rdD sp T ln i e), .no]) (ys := []) rfl rfl ht (by decide)
  have hm2 := eMet_rd (m := "next_char") (F := F_Reader_next_char) (a := aN) (env := [.slf (rdD sp T ln j e), .val d]) (ys := []) rfl rfl hn (by decide)
  have q := tx_eq (a := []) (b := []) (by simp) (by simp)
  rw [decide_eq_true rfl] at q
  unfold F_Reader_whole
  rw [fncS_e (j := 0) (m := 1) (n := 2) (ds := [rdD sp T ln i e]) rfl (by omega)]
  simp_arith [List.set, List.getD, setEe_e, hm, ifE_e, cmpE_e, hm2, no_tx, puE_e, q, neg_e, slfK_e, rtS_e, fnS_ret]
end

def NmOk (w : List Nat) : Prop := w ≠ [] ∧ w.getD 0 0 ∈ LTR ∧ (∀ c ∈ w, c ∈ LTR ++ DG) ∧ w.length ≤ 12

def menuN : List (List Nat) := [[120], [121], [122], [120, 49], [98], [119, 111, 114, 100], [107, 57], [118, 101, 114, 121, 108, 111, 110, 103, 110, 97, 109, 101]]
def wsN (a st n : Nat) : List (List Nat) := (List.range n).map fun k => menuN.getD ((a + st * k) % 8) []
theorem menu_ws : ∀ i < 8, menu.getD i "" = (⟨(menuN.getD i []).toArray⟩ : Str) := by decide +kernel
theorem nms_ws (a st n : Nat) : nms a st n = (wsN a st n).map fun w => (⟨w.toArray⟩ : Str) := by
  unfold nms wsN
  rw [List.map_map]
  exact List.map_congr_left fun k _ => menu_ws _ (Nat.mod_lt _ (by omega))
theorem menuN_ok : ∀ w ∈ menuN, w ≠ [] ∧ w.getD 0 0 ∈ LTR ∧ (∀ c ∈ w, c ∈ LTR ++ DG) ∧ w.length ≤ 12 := by decide +kernel
theorem wsN_ok {a st n : Nat} : ∀ w ∈ wsN a st n, NmOk w := fun w hw => by
  obtain ⟨k, _, rfl⟩ := List.mem_map.mp hw
  have h : (a + st * k) % 8 < menuN.length := Nat.mod_lt _ (by decide)
  rw [List.getD, List.getElem?_eq_getElem h]
  exact menuN_ok _ (List.getElem_mem h)
theorem nms_nd : ∀ a < 8, ∀ b < 4, ∀ n < 6, (nms a ([1, 3, 5, 7].getD b 0) n).Nodup := by decide
theorem nms_Pl {a st n : Nat} : Pl (nms a st n) := fun x hx => by
  have key : ∀ x ∈ menu, (D.str x).plain 59 = true ∧ (D.str x).plain 60 = true := by decide +kernel
  exact key x (nms_mem x hx)

theorem sfx_len {U b : List Nat} (h : b <:+ U) : b.length ≤ U.length := h.length_le
theorem sfx_get {T b : List Nat} {e : Nat} (hs : b <:+ T.take e) (he : e ≤ T.length) {k : Nat} (hk : k < b.length) : T[e - b.length + k]? = b[k]? := by
  obtain ⟨a, ha⟩ := hs
  have hl : a.length + b.length = e := by
    have := congrArg List.length ha
    rw [List.length_append, List.length_take] at this
    omega
  have h1 : (T.take e)[e - b.length + k]? = T[e - b.length + k]? := by
    rw [List.getElem?_take, if_pos (by omega)]
  rw [← h1, ← ha, List.getElem?_append_right (by omega)]
  congr 1
  omega
theorem sfx_getD {T b : List Nat} {e : Nat} (hs : b <:+ T.take e) (he : e ≤ T.length) {k : Nat} (hk : k < b.length) : T.getD (e - b.length + k) 0 = b.getD k 0 := by
  rw [List.getD_eq_getElem?_getD, List.getD_eq_getElem?_getD, sfx_get hs he hk]
theorem sfx_cut {T s r : List Nat} {e : Nat} (hs : s ++ r <:+ T.take e) (he : e ≤ T.length) : (T.take (e - r.length)).drop (e - (s ++ r).length) = s := by
  obtain ⟨a, ha⟩ := hs
  have hl : a.length + (s ++ r).length = e := by
    have := congrArg List.length ha
    rw [List.length_append, List.length_take] at this
    omega
  rw [List.length_append] at hl
  have h1 : T.take (e - r.length) = (T.take e).take (e - r.length) := by
    rw [List.take_take]; congr 1; omega
  rw [h1, ← ha, ← List.append_assoc, List.take_append_of_le_length (by rw [List.length_append]; omega), List.take_of_length_le (by rw [List.length_append]; omega), List.length_append, List.drop_append_of_le_length (by omega), List.drop_of_length_le (by omega)]
  rfl
theorem sfx_tail {U s r : List Nat} (h : s ++ r <:+ U) : r <:+ U := (List.suffix_append s r).trans h
def dsp : List Nat → List Nat
  | [] => []
  | c :: b => if c = 32 then dsp b else c :: b
theorem dsp_split : ∀ b : List Nat, ∃ g, (∀ x ∈ g, x = 32) ∧ b = g ++ dsp b ∧ (dsp b).getD 0 0 ≠ 32
  | [] => ⟨[], by simp, rfl, by decide⟩
  | c :: b => by
    by_cases h : c = 32
    · obtain ⟨g, h1, h2, h3⟩ := dsp_split b
      refine ⟨c :: g, fun x hx => (List.mem_cons.mp hx).elim (fun z => z.trans h) (h1 x), ?_, ?_⟩
      · show c :: b = c :: (g ++ dsp (c :: b))
        rw [show dsp (c :: b) = dsp b from if_pos h, ← h2]
      · rw [show dsp (c :: b) = dsp b from if_pos h]; exact h3
    · refine ⟨[], by simp, ?_, ?_⟩
      · rw [show dsp (c :: b) = c :: b from if_neg h]; rfl
      · rw [show dsp (c :: b) = c :: b from if_neg h]; exact h
theorem dsp_sfx (b : List Nat) : dsp b <:+ b := by
  obtain ⟨g, _, h, _⟩ := dsp_split b
  exact ⟨g, h.symm⟩
theorem dsp_gap {g : List Nat} (hg : ∀ x ∈ g, x = 32) (b : List Nat) : dsp (g ++ b) = dsp b := by
  induction g with
  | nil => rfl
  | cons c g ih =>
    show dsp (c :: (g ++ b)) = _
    rw [show dsp (c :: (g ++ b)) = dsp (g ++ b) from if_pos (hg c List.mem_cons_self)]
    exact ih fun x hx => hg x (List.mem_cons_of_mem _ hx)
theorem dsp_no {c : Nat} {b : List Nat} (h : c ≠ 32) : dsp (c :: b) = c :: b := if_neg h
theorem dsp_get {c : Nat} {b : List Nat} (h : (c :: b).getD 0 0 ≠ 32) : dsp (c :: b) = c :: b := if_neg h
theorem dsp_dsp (b : List Nat) : dsp (dsp b) = dsp b := by
  obtain ⟨g, _, _, h⟩ := dsp_split b
  cases q : dsp b with
  | nil => rfl
  | cons c r =>
    rw [q] at h
    exact dsp_get h
abbrev rs (sp ln : D) (T : List Nat) (e : Nat) (b : List Nat) : D := rdD sp T ln (e - b.length) e
structure Gd (T : List Nat) (e : Nat) : Prop where
  len : T.length ≤ 100000
  sm : ∀ c ∈ T, c < 128
  le : e ≤ T.length
section
variable {sp ln : D} {T : List Nat} {e : Nat} {b : List Nat}
theorem Gd.bl (G : Gd T e) (hs : b <:+ T.take e) : b.length ≤ e := by
  have := sfx_len hs
  rw [List.length_take] at this
  omega
theorem Gd.mem (G : Gd T e) (hs : b <:+ T.take e) : ∀ c ∈ b, c < 128 := fun c hc => G.sm c (List.mem_of_mem_take (hs.subset hc))
theorem gap_end0 (G : Gd T e) {g c : List Nat} (hg : ∀ x ∈ g, x = 32) (hc : c.getD 0 0 ≠ 32) (hs : g ++ c <:+ T.take e) {j : Nat} (h1 : e - (g ++ c).length ≤ j) (h2 : j ≤ e) (h3 : ∀ k, e - (g ++ c).length ≤ k → k < j → T[k]? = some 32) (h4 : j < e → T[j]? ≠ some 32) : j = e - c.length := by
  have hbl := G.bl hs
  have hl : (g ++ c).length = g.length + c.length := List.length_append
  rcases Nat.lt_trichotomy j (e - c.length) with h | h | h
  · exfalso
    have hk : j - (e - (g ++ c).length) < g.length := by omega
    have hk2 : j - (e - (g ++ c).length) < (g ++ c).length := by omega
    have q := sfx_get hs G.le hk2
    rw [show e - (g ++ c).length + (j - (e - (g ++ c).length)) = j by omega, List.getElem?_append_left hk, List.getElem?_eq_getElem hk, hg _ (List.getElem_mem hk)] at q
    exact h4 (by omega) q
  · exact h
  · exfalso
    have q := h3 (e - c.length) (by omega) h
    have hk : g.length < (g ++ c).length := by omega
    have q2 := sfx_get hs G.le hk
    rw [show e - (g ++ c).length + g.length = e - c.length by omega, q, List.getElem?_append_right (Nat.le_refl _), Nat.sub_self] at q2
    apply hc
    rw [List.getD_eq_getElem?_getD, ← q2]
    rfl
theorem gap_end (G : Gd T e) (hs : b <:+ T.take e) {j : Nat} (h1 : e - b.length ≤ j) (h2 : j ≤ e) (h3 : ∀ k, e - b.length ≤ k → k < j → T[k]? = some 32) (h4 : j < e → T[j]? ≠ some 32) : j = e - (dsp b).length := by
  obtain ⟨g, hg, hb, hc⟩ := dsp_split b
  generalize dsp b = c at hb hc ⊢
  subst hb
  exact gap_end0 G hg hc hs h1 h2 h3 h4
theorem take1 {l : List Nat} : l.take 1 = if 0 < l.length then [l.getD 0 0] else [] := by
  cases l <;> simp
theorem next_s (G : Gd T e) (hs : b <:+ T.take e) : F_Reader_next_char [rs sp ln T e b] = some (.tup [txD ((dsp b).take 1), rs sp ln T e (dsp b)]) := by
  obtain ⟨j, h1, h2, h3, h4, hn⟩ := next_eq (sp := sp) (ln := ln) G.len G.sm G.le (Nat.sub_le e b.length)
  have hj := gap_end G hs h1 h2 h3 h4
  have hs2 := (dsp_sfx b).trans hs
  have hl := G.bl hs2
  subst hj
  rw [hn, take1]
  congr 4
  by_cases h0 : 0 < (dsp b).length
  · rw [if_pos (by omega), if_pos h0]
    have := sfx_getD hs2 G.le h0
    rw [Nat.add_zero] at this
    rw [this]
  · rw [if_neg (by omega), if_neg h0]
theorem acc_y (G : Gd T e) (hs : b <:+ T.take e) {c : Nat} {r : List Nat} (hc : dsp b = c :: r) : F_Reader_accept [rs sp ln T e b, txD [c]] = some (.tup [.bl true, rs sp ln T e r]) := by
  have hs2 := (dsp_sfx b).trans hs
  have hl := G.bl hs2
  obtain ⟨j, h1, h2, h3, h4, hn⟩ := accept_eq (sp := sp) (ln := ln) G.len G.sm G.le (Nat.sub_le e b.length) (c := c) (G.mem hs2 c (by rw [hc]; exact List.mem_cons_self))
  have hj := gap_end G hs h1 h2 h3 h4
  subst hj
  have h0 : 0 < (dsp b).length := by rw [hc]; simp
  have q := sfx_getD hs2 G.le h0
  rw [Nat.add_zero] at q
  have q2 : e - (dsp b).length < e ∧ T.getD (e - (dsp b).length) 0 = c := ⟨by omega, by rw [q, hc]; rfl⟩
  rw [hn, if_pos q2, decide_eq_true q2]
  have : e - (dsp b).length + 1 = e - r.length := by rw [hc] at hl ⊢; rw [List.length_cons] at hl ⊢; omega
  rw [this]
theorem acc_n (G : Gd T e) (hs : b <:+ T.take e) {c : Nat} (hc0 : 0 < c ∧ c < 128) (hc : (dsp b).getD 0 0 ≠ c) : F_Reader_accept [rs sp ln T e b, txD [c]] = some (.tup [.bl false, rs sp ln T e (dsp b)]) := by
  have hs2 := (dsp_sfx b).trans hs
  have hl := G.bl hs2
  obtain ⟨j, h1, h2, h3, h4, hn⟩ := accept_eq (sp := sp) (ln := ln) G.len G.sm G.le (Nat.sub_le e b.length) (c := c) hc0.2
  have hj := gap_end G hs h1 h2 h3 h4
  subst hj
  have q2 : ¬ (e - (dsp b).length < e ∧ T.getD (e - (dsp b).length) 0 = c) := fun z => by
    have h0 : 0 < (dsp b).length := by omega
    have q := sfx_getD hs2 G.le h0
    rw [Nat.add_zero, z.2] at q
    exact hc q.symm
  rw [hn, if_neg q2, decide_eq_false q2]
end

theorem number_g {sp ln : D} {T : List Nat} {i e i0 : Nat} (hn0 : F_Reader_next_char [rdD sp T ln i0 e] = some (.tup [txD [T.getD i 0], rdD sp T ln i e])) (hT : T.length ≤ 100000) (hC : ∀ c ∈ T, c < 128) (he : e ≤ T.length) {j : Nat} (hij : i < j) (hje : j ≤ e) (hall : ∀ k, i ≤ k → k < j → T.getD k 0 ∈ DG) (hend : j < e → T.getD j 0 ∉ DG ∧ T.getD j 0 ∉ LTR) (h9 : j - i ≤ 9) : F_Reader_number [rdD sp T ln i0 e] = some (.tup [.int (digV ((T.take j).drop i)), rdD sp T ln j e]) := by
  have hi := hall i (Nat.le_refl _) hij
  have h32 : T.getD i 0 ≠ 32 := fun z => by rw [z] at hi; exact absurd hi (by decide)
  have hn := next_at (sp := sp) (ln := ln) hT hC he (by omega) h32
  have hm := eMet_rd (m := "next_char") (F := F_Reader_next_char) (a := aN) (env := [.slf (rdD sp T ln i e), .no, .no]) (ys := []) rfl rfl hn (by decide)
  have hm0 := eMet_rd (m := "next_char") (F := F_Reader_next_char) (a := aN) (env := [.slf (rdD sp T ln i0 e), .no, .no]) (ys := []) rfl rfl hn0 (by decide)
  have hr := run_at (sp := sp) (ln := ln) (A := DG) hT he (Nat.le_of_lt hij) hje hall fun h => (hend h).1
  have hm2 := eMet_rd (m := "run") (F := F_Reader_run) (a := (aC (cst (txD DG)) aN)) (env := [.slf (rdD sp T ln i e), .val (nD i), .no]) (ys := [txD DG]) rfl rfl hr (by decide)
  have hc : T.getD i 0 < 128 := by
    rw [List.getD_eq_getElem?_getD, List.getElem?_eq_getElem (by omega)]
    exact hC _ (List.getElem_mem _)
  have q1 := tx_c hc [] (by simp)
  rw [show decide ([T.getD i 0] = ([] : List Nat)) = false from by simp] at q1
  have q2 := tx_in (c := T.getD i 0) (A := DG)
  rw [decide_eq_true hi] at q2
  have hlen : ((T.take j).drop i).length = j - i := by rw [List.length_drop, List.length_take]; omega
  have hall2 : ∀ c ∈ (T.take j).drop i, c ∈ DG := fun c hc => by
    obtain ⟨k, hk, rfl⟩ := List.getElem_of_mem hc
    have := hall (i + k) (by omega) (by omega)
    rw [List.getD_eq_getElem?_getD, List.getElem?_eq_getElem (by omega)] at this
    rw [List.getElem_drop, List.getElem_take]
    exact this
  have hdg : ∀ c ∈ DG, 48 ≤ c ∧ c ≤ 57 := by decide
  have hl : lenD (txD ((T.take j).drop i)) = some (.int ((j - i : Nat) : Int)) := by
    rw [← hlen]
    simp [lenD, txD, Str.length]
    unfold szL
    omega
  have hint : intS (txD ((T.take j).drop i)) = some (.int (digV ((T.take j).drop i))) := by
    show (if _ then _ else none) = _
    rw [if_pos]
    refine ⟨fun z => ?_, ?_, ?_⟩
    · have z : (T.take j).drop i = [] := by simpa using z
      rw [z] at hlen
      simp at hlen
      omega
    · rw [List.all_eq_true]
      intro c hc
      have := hdg c (hall2 c (by simpa using hc))
      simp [this.1, this.2]
    · show ((T.take j).drop i).toArray.size ≤ 640
      simp
      omega
  generalize T.getD i 0 = c0 at hm hm0 q1 q2
  have h9' : (9 < ((j - i : Nat) : Int)) ↔ False := iff_false_intro (by omega)
  unfold F_Reader_number
  rw [fncS_e (j := 0) (m := 1) (n := 3) (ds := [rdD sp T ln i0 e]) rfl (by omega)]
  by_cases hje2 : j < e
  · have hg : T[j]? = some (T.getD j 0) := by
      rw [List.getD_eq_getElem?_getD, List.getElem?_eq_getElem (by omega)]; rfl
    have g1 := tx_get hT hg
    have g2 := tx_in (c := T.getD j 0) (A := LTR)
    rw [decide_eq_false (hend hje2).2] at g2
    generalize T.getD j 0 = c1 at g1 g2
    have h' : ((j : Int) < (e : Int)) ↔ True := iff_true_intro (by omega)
    simp -implicitDefEqProofs (disch := first | omega | (simp only [List.length_map, List.length_cons, List.length_nil, List.length_append, List.length_range, List.length_replicate]; omega)) only [sq_e, sqK_nx, sqK_ret, sqK_bk, sqK_ct, skip_e, setE_e, newE_e, rt_e, brk_e, cnt_e, ifS_e, ifK_t, ifK_f, ifX_t, ifX_f, ifT_t, ifT_f, fncK_ret, fncK_nx, ctK_nx, ctK_ct, ctK_ret, lcK_e, lstK_e, tupK_e, tupK_f, tupK_cat, ftupD_lst, ftupE_e, lenD_f, getD_f, addD_ff, blK_e, ovK_e, vaK_e, ife_e, var_e, ovar_e, cst_e, op1_e, op2_e, op3_e, aN_e, aC_e, tupE_e, lstE_e, cal_e, f1_e, cmp_e, flip_e, neg_e, chn_e, boo_e, tes_e, ff_e, tt_e, andT_e, orT_e, notT_e, fX_e, tX_e, andV_e, orV_e, notV_e, isN_e, yes_e, asg_e, gD_n, gD_t, gDs_n, gDs_c, frz_e, mov_e, movO_e, forE_e, iLst_e, iTp_e, iRng_e, one1_c, two2_c, iZp_e, lcE_e, lc2E_e, wip_n, wip_c, noOwn_n, noOwn_c, noO_no, noO_val, fnc_e, ini_e, met_e, fld_e, slE_e, prK_e, prt_e, prN_e, dic1_e, appK_e, app_e, extK_e, ext_e, stK_e, drpA_e, drpK_e, addD_int, addD_tup, addD_lst, subD_int, mulD_l, mulD_r, modD_int, divD_int, intD_int, intD_bl, ltD_int, leD_int, eqD_int, eqD_bl, lenD_lst, lenD_tup, lenD_scr, tupD_lst, listD_lst, listD_tup, revL_lst, isBool_bl, max2_int, isBD_bl, revT_tup, iEnum_e, iItm_e, iSq_e, isC_i, isLst_l, addI_int, subI_int, iZm_e, seqK_t, seqK_l, dcE_e, getD_l, getD_t, rngL_n, rngL_i, rngL_2, sumL_ints, sumT_tup, sumT_lst, allL_bls, anyL_bls, lcT_t, lcT_f, set_0, set_s, szL_le, szL_lt, Option.bind_some, Option.map_some, List.map_cons, List.map_nil, List.length_cons, List.length_nil, List.length_map, List.length_range, List.getElem?_cons_zero, List.getElem?_cons_succ, List.getElem?_map, List.replicate_succ, List.replicate_zero, List.cons_append, List.nil_append, if_true, if_false, ite_true, ite_false, Bool.and_true, Bool.true_and, Bool.and_self, and_true, true_and, and_self, decide_true, decide_false, Bool.not_true, Bool.not_false, eq_self, Int.toNat_natCast, Int.toNat_zero, Nat.reduceAdd, Nat.reduceSub, Nat.reduceLeDiff, Nat.reduceMul, Nat.reduceEqDiff, Int.reduceToNat, Nat.zero_add, Nat.reduceLT, Int.reduceLT, Int.reduceLE, Int.reduceEq, Int.reduceNe, Int.reduceMul, Int.reduceAdd, Int.reducePow, Bool.false_eq_true, reduceCtorEq, not_true_eq_false, not_false_eq_true, ne_eq, Option.getD_some, if_pos, List.length_append, List.length_replicate, msI, maI, msT, maT, msP, maR, List.set, List.getD, ifE_e, orE_e, cmpE_e, hm0, hm, puE_e, no_tx, dg_tx, lt_tx, Option.map_some, q1, q2, neg_e, sv_e, slfK_e, rd_at, rd_end, rd_text, setEe_e, hm2, hl, h9', h', g1, g2, hint, rtS_e, fnS_ret]
  · have h' : ((j : Int) < (e : Int)) ↔ False := iff_false_intro (by omega)
    simp_arith [List.set, List.getD, ifE_e, orE_e, cmpE_e, hm0, hm, puE_e, no_tx, dg_tx, lt_tx, Option.map_some, q1, q2, neg_e, sv_e, slfK_e, rd_at, rd_end, rd_text, setEe_e, hm2, hl, h9', h', hint, rtS_e, fnS_ret]

def Rd (sp : D) (F : Fn) (s : List Nat) (P : D) (K : List Nat) : Prop := ∀ (T : List Nat) (e : Nat) (ln : D) (b r : List Nat), Gd T e → b <:+ T.take e → dsp b = dsp (s ++ r) → r.getD 0 0 ∉ LTR ++ DG → (dsp r).getD 0 0 ∉ K → ∃ b', b' <:+ T.take e ∧ dsp b' = dsp r ∧ F [rs sp ln T e b] = some (.tup [P, rs sp ln T e b'])
def Gap (g : List Nat) : Prop := ∀ x ∈ g, x = 32
def Dg (d : List Nat) : Prop := d ≠ [] ∧ (∀ c ∈ d, c ∈ DG) ∧ d.length ≤ 9
theorem ld_n32 : ∀ c ∈ LTR ++ DG, c ≠ 32 := by decide +kernel
theorem ld_lt : ∀ c ∈ LTR ++ DG, c < 128 := by decide +kernel
section
variable {sp ln : D} {T : List Nat} {e : Nat} {b : List Nat}
theorem dsp_text {g s r : List Nat} (hg : Gap g) (hs : s ≠ []) (h0 : s.getD 0 0 ≠ 32) : dsp (g ++ s ++ r) = s ++ r := by
  rw [List.append_assoc, dsp_gap hg]
  cases s with
  | nil => exact absurd rfl hs
  | cons c s => exact dsp_get h0
theorem gap_hd {g r : List Nat} (hg : Gap g) (hr : r.getD 0 0 ∉ LTR ++ DG) : (g ++ r).getD 0 0 ∉ LTR ++ DG := by
  cases g with
  | nil => exact hr
  | cons c g =>
    rw [hg c List.mem_cons_self]
    show (32 : Nat) ∉ LTR ++ DG
    decide +kernel
theorem run_s (G : Gd T e) {s c : List Nat} (hs : s ++ c <:+ T.take e) {A : List Nat} (h0 : s ≠ []) (hall : ∀ x ∈ s, x ∈ A) (hc : c.getD 0 0 ∉ A) :
    e - (s ++ c).length < e - c.length ∧ e - c.length ≤ e ∧ (∀ k, e - (s ++ c).length ≤ k → k < e - c.length → T.getD k 0 ∈ A) ∧ (e - c.length < e → T.getD (e - c.length) 0 ∉ A) ∧ (e - c.length) - (e - (s ++ c).length) = s.length := by
  have hl := G.bl hs
  have hpos : 0 < s.length := List.length_pos_iff.mpr h0
  rw [List.length_append] at hl
  refine ⟨by rw [List.length_append]; omega, Nat.sub_le _ _, fun k h1 h2 => ?_, fun h => ?_, by rw [List.length_append]; omega⟩
  · rw [List.length_append] at h1
    have hk : k - (e - (s ++ c).length) < s.length := by rw [List.length_append]; omega
    have q := sfx_getD hs G.le (k := k - (e - (s ++ c).length)) (by rw [List.length_append] at *; omega)
    rw [show e - (s ++ c).length + (k - (e - (s ++ c).length)) = k by rw [List.length_append] at *; omega] at q
    rw [q, List.getD_eq_getElem?_getD, List.getElem?_append_left hk, List.getElem?_eq_getElem hk]
    exact hall _ (List.getElem_mem hk)
  · have hc2 := sfx_tail hs
    have q := sfx_getD hc2 G.le (k := 0) (by omega)
    rw [Nat.add_zero] at q
    rw [q]; exact hc
theorem number_s (G : Gd T e) (hs : b <:+ T.take e) {d c : List Nat} (hb : dsp b = d ++ c) (hd : Dg d) (hc : c.getD 0 0 ∉ LTR ++ DG) : F_Reader_number [rs sp ln T e b] = some (.tup [.int (digV d), rs sp ln T e c]) := by
  have hs2 : d ++ c <:+ T.take e := hb ▸ (dsp_sfx b).trans hs
  have hn0 := next_s (sp := sp) (ln := ln) G hs
  have hcD : c.getD 0 0 ∉ DG := fun z => hc (List.mem_append_right _ z)
  have hcL : c.getD 0 0 ∉ LTR := fun z => hc (List.mem_append_left _ z)
  obtain ⟨h1, h2, h3, h4, h5⟩ := run_s G hs2 hd.1 hd.2.1 hcD
  obtain ⟨_, _, _, h4', _⟩ := run_s G hs2 hd.1 (A := DG ++ []) (fun x hx => List.mem_append_left _ (hd.2.1 x hx)) (by rw [List.append_nil]; exact hcD)
  have hpos : 0 < (d ++ c).length := by rw [List.length_append]; have := List.length_pos_iff.mpr hd.1; omega
  have q := sfx_getD hs2 G.le hpos
  rw [Nat.add_zero] at q
  rw [hb, take1, if_pos hpos, ← q] at hn0
  have := number_g (sp := sp) (ln := ln) hn0 G.len G.sm G.le h1 h2 h3 (fun h => ⟨h4 h, by
    have hc2 := sfx_tail hs2
    have hl := G.bl hs2
    rw [List.length_append] at hl
    have q := sfx_getD hc2 G.le (k := 0) (by omega)
    rw [Nat.add_zero] at q
    rw [q]; exact hcL⟩) (by rw [h5]; exact hd.2.2)
  rw [this, sfx_cut hs2 G.le]
end

section
variable {p : Nat} {ns : List Str} {t : Fn}
theorem rd_num (hns : 1 ≤ ns.length ∧ ns.length ≤ 1000) (hp : 2 ≤ p) {g1 d g2 K : List Nat} (h1 : Gap g1) (hd : Dg d) (h2 : Gap g2) : Rd (spcD p ns) (F_Reader_base_g t) (g1 ++ d ++ g2) (pD (mk p [(List.replicate ns.length 0, ((digV d : Nat) : Int))])) K := by
  intro T e ln b r G hs hb hr hK
  have hd0 : d.getD 0 0 ∈ DG := by
    cases d with
    | nil => exact absurd rfl hd.1
    | cons c d => exact hd.2.1 c List.mem_cons_self
  have hb2 : dsp b = d ++ (g2 ++ r) := by
    rw [hb, show g1 ++ d ++ g2 ++ r = g1 ++ d ++ (g2 ++ r) from List.append_assoc _ _ _]
    exact dsp_text h1 hd.1 (ld_n32 _ (List.mem_append_right _ hd0))
  have hc := gap_hd h2 hr
  have hs2 : d ++ (g2 ++ r) <:+ T.take e := hb2 ▸ (dsp_sfx b).trans hs
  refine ⟨g2 ++ r, sfx_tail hs2, dsp_gap h2 r, ?_⟩
  generalize g2 ++ r = c at hb2 hc hs2
  have hn0 := next_s (sp := spcD p ns) (ln := ln) G hs
  have hcD : c.getD 0 0 ∉ DG := fun z => hc (List.mem_append_right _ z)
  have hcL : c.getD 0 0 ∉ LTR := fun z => hc (List.mem_append_left _ z)
  obtain ⟨q1, q2, q3, q4, q5⟩ := run_s G hs2 hd.1 hd.2.1 hcD
  have hpos : 0 < (d ++ c).length := by rw [List.length_append]; have := List.length_pos_iff.mpr hd.1; omega
  have q := sfx_getD hs2 G.le hpos
  rw [Nat.add_zero] at q
  rw [hb2, take1, if_pos hpos, ← q] at hn0
  have := base_num (ln := ln) t hn0 hns hp G.len G.sm G.le q1 q2 q3 (fun h => ⟨q4 h, by
    have hc2 := sfx_tail hs2
    have hl := G.bl hs2
    rw [List.length_append] at hl
    have q := sfx_getD hc2 G.le (k := 0) (by omega)
    rw [Nat.add_zero] at q
    rw [q]; exact hcL⟩) (by rw [q5]; exact hd.2.2)
  rw [this, sfx_cut hs2 G.le]
theorem rd_nam (hP : Pl ns) (hns : 1 ≤ ns.length ∧ ns.length ≤ 1000) (hp : 2 ≤ p) {g1 w g2 K : List Nat} (h1 : Gap g1) (hw : NmOk w) (hwn : (⟨w.toArray⟩ : Str) ∈ ns) (h2 : Gap g2) : Rd (spcD p ns) (F_Reader_base_g t) (g1 ++ w ++ g2) (pD (unkP p ns.length (idxf ns ⟨w.toArray⟩))) K := by
  intro T e ln b r G hs hb hr hK
  have hb2 : dsp b = w ++ (g2 ++ r) := by
    rw [hb, show g1 ++ w ++ g2 ++ r = g1 ++ w ++ (g2 ++ r) from List.append_assoc _ _ _]
    exact dsp_text h1 hw.1 (ld_n32 _ (List.mem_append_left _ hw.2.1))
  have hc := gap_hd h2 hr
  have hs2 : w ++ (g2 ++ r) <:+ T.take e := hb2 ▸ (dsp_sfx b).trans hs
  refine ⟨g2 ++ r, sfx_tail hs2, dsp_gap h2 r, ?_⟩
  generalize g2 ++ r = c at hb2 hc hs2
  have hn0 := next_s (sp := spcD p ns) (ln := ln) G hs
  obtain ⟨q1, q2, q3, q4, q5⟩ := run_s G hs2 hw.1 hw.2.2.1 hc
  have hpos : 0 < (w ++ c).length := by rw [List.length_append]; have := List.length_pos_iff.mpr hw.1; omega
  have q := sfx_getD hs2 G.le hpos
  rw [Nat.add_zero] at q
  rw [hb2, take1, if_pos hpos, ← q] at hn0
  have hl0 : T.getD (e - (w ++ c).length) 0 ∈ LTR := by
    rw [q, List.getD_eq_getElem?_getD, List.getElem?_append_left (List.length_pos_iff.mpr hw.1), ← List.getD_eq_getElem?_getD]
    exact hw.2.1
  exact base_name (ln := ln) t hn0 hP hns hp G.len G.sm G.le q1 q2 hl0 q3 q4 (by rw [q5]; exact hw.2.2.2) (w := ⟨w.toArray⟩) (by rw [sfx_cut hs2 G.le]; rfl) hwn
theorem Rd.mono {sp P : D} {F : Fn} {s K K' : List Nat} (h : Rd sp F s P K) (hk : ∀ x ∈ K, x ∈ K') : Rd sp F s P K' := fun T e ln b r G hs hb hr hK => h T e ln b r G hs hb hr fun z => hK (hk _ z)
theorem rd_par {sp P : D} {s g1 g2 K K' : List Nat} (h1 : Gap g1) (h2 : Gap g2) (ht : Rd sp t s P K) (hk : 41 ∉ K) : Rd sp (F_Reader_base_g t) (g1 ++ 40 :: (s ++ 41 :: g2)) P K' := by
  intro T e ln b r G hs hb hr hK
  have hb2 : dsp b = 40 :: (s ++ 41 :: (g2 ++ r)) := by
    rw [hb, List.append_assoc, dsp_gap h1]
    show dsp (40 :: ((s ++ 41 :: g2) ++ r)) = _
    rw [dsp_no (by omega), List.append_assoc]
    rfl
  have hs1 := (dsp_sfx b).trans hs
  have hn := next_s (sp := sp) (ln := ln) G hs
  have hay := acc_y (sp := sp) (ln := ln) (b := dsp b) G hs1 (c := 40) (r := s ++ 41 :: (g2 ++ r)) (by rw [dsp_dsp, hb2])
  rw [hb2] at hs1
  have hs2 : s ++ 41 :: (g2 ++ r) <:+ T.take e := sfx_tail (s := [40]) hs1
  obtain ⟨b2, hs3, hb3, htt⟩ := ht T e ln (s ++ 41 :: (g2 ++ r)) (41 :: (g2 ++ r)) G hs2 rfl (by show (41 : Nat) ∉ _; decide +kernel) (by rw [dsp_no (by omega)]; exact hk)
  rw [dsp_no (by omega)] at hb3
  have hay2 := acc_y (sp := sp) (ln := ln) G hs3 hb3
  refine ⟨g2 ++ r, sfx_tail (s := s ++ [41]) (by simpa using hs2), dsp_gap h2 r, ?_⟩
  rw [hb2] at hn hay
  generalize g2 ++ r = c at hay hay2 htt hn
  rw [show (40 :: (s ++ 41 :: c)).take 1 = [40] from rfl] at hn
  have hm := eMet_rd (m := "next_char") (F := F_Reader_next_char) (a := aN) (env := [.slf (rs sp ln T e b), .no, .no]) (ys := []) rfl rfl hn (by decide)
  have hm2 := eMet_rd (m := "accept") (F := F_Reader_accept) (a := (aC (cst (txD [40])) aN)) (env := [.slf (rs sp ln T e (40 :: (s ++ 41 :: c))), .val (txD [40]), .no]) (ys := [txD [40]]) rfl rfl hay (by decide)
  have hm3 := eMet_rd (m := "terms") (F := t) (a := aN) (env := [.slf (rs sp ln T e (s ++ 41 :: c)), .val (txD [40]), .no]) (ys := []) rfl rfl htt (by decide)
  have hm4 := eMet_rd (m := "accept") (F := F_Reader_accept) (a := (aC (cst (txD [41])) aN)) (env := [.slf (rs sp ln T e b2), .val (txD [40]), .val P]) (ys := [txD [41]]) rfl rfl hay2 (by decide)
  have e40 : (D.str "(") = txD [40] := rfl
  have e41 : (D.str ")") = txD [41] := rfl
  have q1 : eqD (txD [40]) (txD []) = some false := by rw [tx_eq (by simp) (by simp)]; rfl
  have q2 : inS (txD [40]) (txD DG) = some false := by rw [tx_in]; rfl
  have q3 : inS (txD [40]) (txD LTR) = some false := by rw [tx_in]; rfl
  unfold F_Reader_base_g
  rw [fncS_e (j := 0) (m := 1) (n := 3) (ds := [rs sp ln T e b]) rfl (by omega)]
  simp_arith [List.set, List.getD, setEe_e, hm, no_tx, dg_tx, lt_tx, e40, e41, q1, q2, q3, neg_e, ifE_e, notE_e, tesE_e, hm2, blP_e, hm3, hm4, slfK_e, rtS_e, puE_e, fnS_ret]
end

def Hd (s : List Nat) : Prop := ∀ r, (dsp (s ++ r)).getD 0 0 ≠ 45
theorem Hd.app {s : List Nat} (h : Hd s) (x : List Nat) : Hd (s ++ x) := fun r => by rw [List.append_assoc]; exact h _
theorem hd_base {g s : List Nat} (hg : Gap g) (hs : s ≠ []) (h1 : s.getD 0 0 ≠ 32) (h2 : s.getD 0 0 ≠ 45) : Hd (g ++ s) := fun r => by
  rw [dsp_text hg hs h1]
  cases s with
  | nil => exact absurd rfl hs
  | cons c s => exact h2
section
variable {sp : D} {t : Fn}
theorem rd_fac0 {s g : List Nat} {P : D} (hb : Rd sp (F_Reader_base_g t) s P []) (hg : Gap g) : Rd sp (F_Reader_factor_g t) (s ++ g) P [94] := by
  intro T e ln b r G hs hb0 hr hK
  obtain ⟨b1, hs1, hb1, h1⟩ := hb T e ln b (g ++ r) G hs (by rw [hb0, List.append_assoc]) (gap_hd hg hr) (by simp)
  rw [dsp_gap hg] at hb1
  have hn := acc_n (sp := sp) (ln := ln) (c := 94) G hs1 (by omega) (by rw [hb1]; simpa using hK)
  exact ⟨dsp b1, (dsp_sfx b1).trans hs1, by rw [dsp_dsp, hb1], factor_0 h1 hn⟩
theorem rd_fac1 {s g1 d g : List Nat} {P Q : D} (hb : Rd sp (F_Reader_base_g t) s P []) (h1 : Gap g1) (hd : Dg d) (hg : Gap g) (hq : F_raised [sp, P, .int ((digV d : Nat) : Int)] = some Q) : Rd sp (F_Reader_factor_g t) (s ++ 94 :: (g1 ++ d ++ g)) Q [94] := by
  intro T e ln b r G hs hb0 hr hK
  obtain ⟨b1, hs1, hb1, h2⟩ := hb T e ln b (94 :: (g1 ++ d ++ g ++ r)) G hs (by rw [hb0, List.append_assoc]; rfl) (by show (94 : Nat) ∉ _; decide +kernel) (by simp)
  rw [dsp_no (by omega)] at hb1
  have hy := acc_y (sp := sp) (ln := ln) G hs1 hb1
  have hs2 : g1 ++ d ++ g ++ r <:+ T.take e := by
    have : 94 :: (g1 ++ d ++ g ++ r) <:+ T.take e := hb1 ▸ (dsp_sfx b1).trans hs1
    exact sfx_tail (s := [94]) this
  have hd0 : d.getD 0 0 ∈ DG := by
    cases d with
    | nil => exact absurd rfl hd.1
    | cons c d => exact hd.2.1 c List.mem_cons_self
  have hd2 : dsp (g1 ++ d ++ g ++ r) = d ++ (g ++ r) := by
    rw [show g1 ++ d ++ g ++ r = g1 ++ d ++ (g ++ r) from List.append_assoc _ _ _]
    exact dsp_text h1 hd.1 (ld_n32 _ (List.mem_append_right _ hd0))
  have hn := number_s (sp := sp) (ln := ln) G hs2 hd2 hd (gap_hd hg hr)
  have hs3 : d ++ (g ++ r) <:+ T.take e := hd2 ▸ (dsp_sfx _).trans hs2
  exact ⟨g ++ r, sfx_tail hs3, dsp_gap hg r, factor_1 h2 hy hn hq⟩
inductive PrC (sp : D) : D → List (List Nat × D) → D → Prop
  | nil {d : D} : PrC sp d [] d
  | cons {d d2 d' : D} {q : List Nat × D} {l : List (List Nat × D)} : F_times [sp, d, q.2] = some d2 → PrC sp d2 l d' → PrC sp d (q :: l) d'
theorem PrC.snoc {d d' d2 : D} {l : List (List Nat × D)} {q : List Nat × D} (h : PrC sp d l d') (hq : F_times [sp, d', q.2] = some d2) : PrC sp d (l ++ [q]) d2 := by
  induction h with
  | nil => exact .cons hq .nil
  | cons h1 _ ih => exact .cons h1 (ih hq)
def prT (l : List (List Nat × D)) : List Nat := l.flatMap fun q => 42 :: q.1
theorem facs_run {T : List Nat} {e : Nat} {ln : D} (G : Gd T e) {r : List Nat} (hr : r.getD 0 0 ∉ LTR ++ DG) (h94 : (dsp r).getD 0 0 ≠ 94) (h42 : (dsp r).getD 0 0 ≠ 42) : ∀ (l : List (List Nat × D)) (b : List Nat) (d d' : D), (∀ q ∈ l, Rd sp (F_Reader_factor_g t) q.1 q.2 [94]) → PrC sp d l d' → b <:+ T.take e → dsp b = dsp (prT l ++ r) →
    ∃ b', b' <:+ T.take e ∧ dsp b' = dsp r ∧ Facs sp ln T e t (e - b.length) d (e - b'.length) d' (l.length + 1)
  | [], b, d, _, _, .nil, hs, hb => by
    have hb : dsp b = dsp r := hb
    have hn := acc_n (sp := sp) (ln := ln) (c := 42) G hs (by omega) (by rw [hb]; exact h42)
    exact ⟨dsp b, (dsp_sfx b).trans hs, by rw [dsp_dsp, hb], .stop hn⟩
  | q :: l, b, d, d', hq, .cons (d2 := d2) h1 h2, hs, hb => by
    have hb : dsp b = 42 :: (q.1 ++ (prT l ++ r)) := by
      rw [hb]
      show dsp (42 :: (q.1 ++ prT l) ++ r) = _
      rw [List.cons_append, dsp_no (by omega), List.append_assoc]
    have hy := acc_y (sp := sp) (ln := ln) G hs hb
    have hs1 : q.1 ++ (prT l ++ r) <:+ T.take e := by
      have : 42 :: (q.1 ++ (prT l ++ r)) <:+ T.take e := hb ▸ (dsp_sfx b).trans hs
      exact sfx_tail (s := [42]) this
    have hf : (prT l ++ r).getD 0 0 ∉ LTR ++ DG ∧ (dsp (prT l ++ r)).getD 0 0 ≠ 94 := by
      cases l with
      | nil => exact ⟨hr, h94⟩
      | cons x l =>
        constructor
        · show (42 : Nat) ∉ _; decide +kernel
        · show (dsp (42 :: (x.1 ++ prT l) ++ r)).getD 0 0 ≠ 94
          rw [List.cons_append, dsp_no (by omega)]
          show (42 : Nat) ≠ 94
          omega
    obtain ⟨b2, hs2, hb2, h3⟩ := hq q List.mem_cons_self T e ln _ (prT l ++ r) G hs1 rfl hf.1 (by simpa using hf.2)
    obtain ⟨b', hs', hb', h4⟩ := facs_run G hr h94 h42 l b2 d2 d' (fun x hx => hq x (List.mem_cons_of_mem _ hx)) h2 hs2 hb2
    exact ⟨b', hs', hb', .step hy h3 h1 h4⟩
theorem rd_prod {s : List Nat} {P d' : D} {l : List (List Nat × D)} (h0 : Rd sp (F_Reader_factor_g t) s P [94]) (hl : ∀ q ∈ l, Rd sp (F_Reader_factor_g t) q.1 q.2 [94]) (hc : PrC sp P l d') (hn : l.length ≤ 900) : Rd sp (F_Reader_product_g t) (s ++ prT l) d' [94, 42] := by
  intro T e ln b r G hs hb hr hK
  simp only [List.mem_cons, List.not_mem_nil, or_false, not_or] at hK
  have hf : (prT l ++ r).getD 0 0 ∉ LTR ++ DG ∧ (dsp (prT l ++ r)).getD 0 0 ≠ 94 := by
    cases l with
    | nil => exact ⟨hr, hK.1⟩
    | cons x l =>
      constructor
      · show (42 : Nat) ∉ _; decide +kernel
      · show (dsp (42 :: (x.1 ++ prT l) ++ r)).getD 0 0 ≠ 94
        rw [List.cons_append, dsp_no (by omega)]
        show (42 : Nat) ≠ 94
        omega
  obtain ⟨b1, hs1, hb1, h1⟩ := h0 T e ln b (prT l ++ r) G hs (by rw [hb, List.append_assoc]) hf.1 (by simpa using hf.2)
  obtain ⟨b', hs', hb', h2⟩ := facs_run (t := t) G hr hK.1 hK.2 l b1 P d' hl hc hs1 hb1
  exact ⟨b', hs', hb', product_eq h1 h2 (by omega)⟩
structure SmI where
  g : List Nat
  neg : Bool
  s : List Nat
  f : D
inductive SmC (sp : D) : D → List SmI → D → Prop
  | nil {d : D} : SmC sp d [] d
  | cons {d d2 d' : D} {q : SmI} {l : List SmI} : (if q.neg = true then F_minus else F_plus) [sp, d, q.f] = some d2 → SmC sp d2 l d' → SmC sp d (q :: l) d'
theorem SmC.snoc {d d' d2 : D} {l : List SmI} {q : SmI} (h : SmC sp d l d') (hq : (if q.neg = true then F_minus else F_plus) [sp, d', q.f] = some d2) : SmC sp d (l ++ [q]) d2 := by
  induction h with
  | nil => exact .cons hq .nil
  | cons h1 _ ih => exact .cons h1 (ih hq)
def sgN (b : Bool) : Nat := if b then 45 else 43
def smT (l : List SmI) : List Nat := l.flatMap fun q => q.g ++ sgN q.neg :: q.s
structure SmI.ok (sp : D) (t : Fn) (q : SmI) : Prop where
  gap : Gap q.g
  rd : Rd sp (F_Reader_product_g t) q.s q.f [94, 42]
theorem sm_fol {l : List SmI} (hl : ∀ q ∈ l, q.ok sp t) {r : List Nat} (hr : r.getD 0 0 ∉ LTR ++ DG) (hK : (dsp r).getD 0 0 ∉ [94, 42]) : (smT l ++ r).getD 0 0 ∉ LTR ++ DG ∧ (dsp (smT l ++ r)).getD 0 0 ∉ [94, 42] := by
  cases l with
  | nil => exact ⟨hr, hK⟩
  | cons q l =>
    have hg := (hl q List.mem_cons_self).gap
    have e1 : smT (q :: l) ++ r = q.g ++ (sgN q.neg :: (q.s ++ (smT l ++ r))) := by
      show ((q.g ++ sgN q.neg :: q.s) ++ smT l) ++ r = _
      simp [List.append_assoc]
    have hsg : sgN q.neg = 45 ∨ sgN q.neg = 43 := by unfold sgN; cases q.neg <;> simp
    rw [e1]
    constructor
    · refine gap_hd hg ?_
      show sgN q.neg ∉ _
      rcases hsg with h | h <;> (rw [h]; decide +kernel)
    · rw [dsp_gap hg, dsp_no (by rcases hsg with h | h <;> omega)]
      show sgN q.neg ∉ _
      rcases hsg with h | h <;> (rw [h]; decide)
theorem sums_run {T : List Nat} {e : Nat} {ln : D} (G : Gd T e) {r : List Nat} (hr : r.getD 0 0 ∉ LTR ++ DG) (hK : (dsp r).getD 0 0 ∉ [94, 42, 43, 45]) : ∀ (l : List SmI) (b : List Nat) (d d' : D), (∀ q ∈ l, q.ok sp t) → SmC sp d l d' → b <:+ T.take e → dsp b = dsp (smT l ++ r) →
    ∃ b', b' <:+ T.take e ∧ dsp b' = dsp r ∧ WhR (sumB t) [.slf (rs sp ln T e b), .val d] (.tup [d', rs sp ln T e b']) (l.length + 1)
  | [], b, d, _, _, .nil, hs, hb => by
    simp only [List.mem_cons, List.not_mem_nil, or_false, not_or] at hK
    have hb : dsp b = dsp r := hb
    have hs1 := (dsp_sfx b).trans hs
    have h1 := acc_n (sp := sp) (ln := ln) (c := 43) G hs (by omega) (by rw [hb]; exact hK.2.2.1)
    have h2 := acc_n (sp := sp) (ln := ln) (c := 45) G hs1 (by omega) (by rw [dsp_dsp, hb]; exact hK.2.2.2)
    rw [dsp_dsp] at h2
    have hm1 := eMet_rd (m := "accept") (F := F_Reader_accept) (a := (aC (cst (txD [43])) aN)) (env := [.slf (rs sp ln T e b), .val d]) (ys := [txD [43]]) rfl rfl h1 (by decide)
    have hm2 := eMet_rd (m := "accept") (F := F_Reader_accept) (a := (aC (cst (txD [45])) aN)) (env := [.slf (rs sp ln T e (dsp b)), .val d]) (ys := [txD [45]]) rfl rfl h2 (by decide)
    refine ⟨dsp b, hs1, by rw [dsp_dsp, hb], .stop ?_⟩
    unfold sumB
    simp_arith [ifE_e, tesE_e, hm1, hm2, blP_e, List.set, puE_e, slfK_e, rtS_e]
  | q :: l, b, d, d', hq, .cons (d2 := d2) h1 h2, hs, hb => by
    obtain ⟨hg, hrd⟩ := hq q List.mem_cons_self
    have hsg : sgN q.neg = 45 ∨ sgN q.neg = 43 := by unfold sgN; cases q.neg <;> simp
    have hb : dsp b = sgN q.neg :: (q.s ++ (smT l ++ r)) := by
      rw [hb, show smT (q :: l) ++ r = q.g ++ (sgN q.neg :: (q.s ++ (smT l ++ r))) from by
        show ((q.g ++ sgN q.neg :: q.s) ++ smT l) ++ r = _
        simp [List.append_assoc], dsp_gap hg, dsp_no (by rcases hsg with h | h <;> omega)]
    have hs0 := (dsp_sfx b).trans hs
    have hs1 : q.s ++ (smT l ++ r) <:+ T.take e := by
      have : sgN q.neg :: (q.s ++ (smT l ++ r)) <:+ T.take e := hb ▸ hs0
      exact sfx_tail (s := [sgN q.neg]) this
    have hf := sm_fol (l := l) (fun x hx => hq x (List.mem_cons_of_mem _ hx)) hr (fun z => hK (by simp only [List.mem_cons, List.not_mem_nil, or_false] at z ⊢; omega))
    obtain ⟨b2, hs2, hb2, h3⟩ := hrd T e ln _ (smT l ++ r) G hs1 rfl hf.1 hf.2
    obtain ⟨b', hs', hb', h4⟩ := sums_run G hr hK l b2 d2 d' (fun x hx => hq x (List.mem_cons_of_mem _ hx)) h2 hs2 hb2
    refine ⟨b', hs', hb', .step ?_ h4⟩
    cases hn : q.neg with
    | false =>
      rw [hn] at hb h1
      have hy := acc_y (sp := sp) (ln := ln) G hs hb
      have h1 : F_plus [sp, d, q.f] = some d2 := h1
      have hm1 := eMet_rd (m := "accept") (F := F_Reader_accept) (a := (aC (cst (txD [43])) aN)) (env := [.slf (rs sp ln T e b), .val d]) (ys := [txD [43]]) rfl rfl hy (by decide)
      have hm3 := eMet_rd (m := "product") (F := F_Reader_product_g t) (a := aN) (env := [.slf (rs sp ln T e (q.s ++ (smT l ++ r))), .val d]) (ys := []) rfl rfl h3 (by decide)
      unfold sumB
      simp_arith [ifE_e, tesE_e, hm1, blP_e, setEe_e, calE_e, eC_e, eN_e, puE_e, sv_e, slfK_e, rd_space, hm3, List.set, h1]
    | true =>
      rw [hn] at hb h1
      have hno := acc_n (sp := sp) (ln := ln) (c := 43) G hs (by omega) (by rw [hb]; show (45 : Nat) ≠ 43; omega)
      have hy := acc_y (sp := sp) (ln := ln) (b := dsp b) G hs0 (by rw [dsp_dsp]; exact hb)
      have h1 : F_minus [sp, d, q.f] = some d2 := h1
      have hm0 := eMet_rd (m := "accept") (F := F_Reader_accept) (a := (aC (cst (txD [43])) aN)) (env := [.slf (rs sp ln T e b), .val d]) (ys := [txD [43]]) rfl rfl hno (by decide)
      have hm1 := eMet_rd (m := "accept") (F := F_Reader_accept) (a := (aC (cst (txD [45])) aN)) (env := [.slf (rs sp ln T e (dsp b)), .val d]) (ys := [txD [45]]) rfl rfl hy (by decide)
      have hm3 := eMet_rd (m := "product") (F := F_Reader_product_g t) (a := aN) (env := [.slf (rs sp ln T e (q.s ++ (smT l ++ r))), .val d]) (ys := []) rfl rfl h3 (by decide)
      unfold sumB
      simp_arith [ifE_e, tesE_e, hm0, hm1, blP_e, setEe_e, calE_e, eC_e, eN_e, puE_e, sv_e, slfK_e, rd_space, hm3, List.set, h1]
end

section
variable {p : Nat} {ns : List Str}
theorem rd_terms {P d0 d' : D} {g0 s gE : List Nat} {neg : Bool} {fu : Nat} {l : List SmI} (hg0 : Gap g0) (h0 : Rd (spcD p ns) (F_Reader_product_g (F_Reader_terms_rec fu)) s P [94, 42]) (hh : neg = false → Hd s) (hl : ∀ q ∈ l, q.ok (spcD p ns) (F_Reader_terms_rec fu))
    (hd : if neg = true then F_scaled [spcD p ns, P, .int ((p : Int) - 1)] = some d0 else d0 = P) (hc : SmC (spcD p ns) d0 l d') (hgE : Gap gE) (hn : l.length ≤ 900) : Rd (spcD p ns) (F_Reader_terms_rec (fu + 1)) (g0 ++ ((if neg = true then 45 :: s else s) ++ (smT l ++ gE))) d' [94, 42, 43, 45] := by
  intro T e ln b r G hs hb hr hK
  have hr2 := gap_hd hgE hr
  have hK2 : (dsp (gE ++ r)).getD 0 0 ∉ [94, 42, 43, 45] := by rw [dsp_gap hgE]; exact hK
  have hf := sm_fol hl hr2 (fun z => hK2 (by simp only [List.mem_cons, List.not_mem_nil, or_false] at z ⊢; omega))
  have fin : ∀ b1, b1 <:+ T.take e → dsp b1 = dsp (smT l ++ (gE ++ r)) → ∃ b', b' <:+ T.take e ∧ dsp b' = dsp r ∧ whE (tes (cst (.bl true))) (sumB (F_Reader_terms_rec fu)) [.slf (rs (spcD p ns) ln T e b1), .val d0] = some (.ret (.tup [d', rs (spcD p ns) ln T e b'])) := fun b1 hs1 hb1 => by
    obtain ⟨b', hs', hb', hw⟩ := sums_run (t := F_Reader_terms_rec fu) (ln := ln) G hr2 hK2 l b1 d0 d' hl hc hs1 hb1
    rw [dsp_gap hgE] at hb'
    exact ⟨b', hs', hb', hw.run szL (by unfold szL; omega)⟩
  cases neg with
  | false =>
    have hb2 : dsp b = dsp (s ++ (smT l ++ (gE ++ r))) := by
      rw [hb]
      simp only [Bool.false_eq_true, if_false, List.append_assoc]
      rw [dsp_gap hg0]
    have hd : d0 = P := hd
    subst hd
    have hs0 := (dsp_sfx b).trans hs
    have hm := acc_n (sp := spcD p ns) (ln := ln) (c := 45) G hs (by omega) (by rw [hb2]; exact hh rfl _)
    obtain ⟨b1, hs1, hb1, h1⟩ := h0 T e ln (dsp b) (smT l ++ (gE ++ r)) G hs0 (by rw [dsp_dsp]; exact hb2) hf.1 hf.2
    obtain ⟨b', hs', hb', hw⟩ := fin b1 hs1 hb1
    have hm1 := eMet_rd (m := "accept") (F := F_Reader_accept) (a := (aC (cst (txD [45])) aN)) (env := [.slf (rs (spcD p ns) ln T e b), .no]) (ys := [txD [45]]) rfl rfl hm (by decide)
    have hm2 := eMet_rd (m := "product") (F := F_Reader_product_g (F_Reader_terms_rec fu)) (a := aN) (env := [.slf (rs (spcD p ns) ln T e (dsp b)), .no]) (ys := []) rfl rfl h1 (by decide)
    refine ⟨b', hs', hb', ?_⟩
    unfold sumB at hw
    rw [F_Reader_terms_rec, fncS_e (j := 0) (m := 1) (n := 2) (ds := [rs (spcD p ns) ln T e b]) rfl (by omega)]
    simp_arith [List.set, List.getD, mi_tx, pl_tx, ifE_e, tesE_e, hm1, blP_e, setEe_e, hm2, hw, fnS_ret]
  | true =>
    have hb2 : dsp b = 45 :: (s ++ (smT l ++ (gE ++ r))) := by
      rw [hb]
      simp only [if_true, List.append_assoc, List.cons_append]
      rw [dsp_gap hg0, dsp_no (by omega)]
    have hd : F_scaled [spcD p ns, P, .int ((p : Int) - 1)] = some d0 := hd
    have hs0 : s ++ (smT l ++ (gE ++ r)) <:+ T.take e := by
      have : 45 :: (s ++ (smT l ++ (gE ++ r))) <:+ T.take e := hb2 ▸ (dsp_sfx b).trans hs
      exact sfx_tail (s := [45]) this
    have hm := acc_y (sp := spcD p ns) (ln := ln) G hs hb2
    obtain ⟨b1, hs1, hb1, h1⟩ := h0 T e ln _ (smT l ++ (gE ++ r)) G hs0 rfl hf.1 hf.2
    obtain ⟨b', hs', hb', hw⟩ := fin b1 hs1 hb1
    generalize s ++ (smT l ++ (gE ++ r)) = c at hm h1
    have hm1 := eMet_rd (m := "accept") (F := F_Reader_accept) (a := (aC (cst (txD [45])) aN)) (env := [.slf (rs (spcD p ns) ln T e b), .no]) (ys := [txD [45]]) rfl rfl hm (by decide)
    have hm2 := eMet_rd (m := "product") (F := F_Reader_product_g (F_Reader_terms_rec fu)) (a := aN) (env := [.slf (rs (spcD p ns) ln T e c), .no]) (ys := []) rfl rfl h1 (by decide)
    refine ⟨b', hs', hb', ?_⟩
    unfold sumB at hw
    rw [F_Reader_terms_rec, fncS_e (j := 0) (m := 1) (n := 2) (ds := [rs (spcD p ns) ln T e b]) rfl (by omega)]
    simp_arith [List.set, List.getD, mi_tx, pl_tx, ifE_e, tesE_e, hm1, blP_e, setEe_e, calE_e, eC_e, eN_e, puE_e, sv_e, slfK_e, rd_space, sp_prime, hm2, hd, hw, fnS_ret]
theorem rd_whole {P sp ln : D} {s T : List Nat} {e : Nat} {b : List Nat} (h : Rd sp F_Reader_terms s P [94, 42, 43, 45]) (G : Gd T e) (hs : b <:+ T.take e) (hb : dsp b = dsp s) : ∃ s', F_Reader_whole [rs sp ln T e b] = some (.tup [P, s']) := by
  obtain ⟨b', hs', hb', h1⟩ := h T e ln b [] G hs (by rw [List.append_nil]; exact hb) (by decide +kernel) (by decide)
  have hn := next_s (sp := sp) (ln := ln) G hs'
  rw [hb'] at hn
  exact ⟨_, whole_eq h1 hn⟩
end

theorem lconstant_eq {p n : Nat} (hp : 1 ≤ p ∧ p ≤ 1000) (hn : 1 ≤ n ∧ n ≤ 1000) (k : Int) : F__law_constant [nD p, nD n, .int k] = some (pD (mk p [(List.replicate n 0, k)])) := by
  have e1 := made_eq hp hn.1 (m := [(List.replicate n 0, k)]) (by simp) (by
    intro r hr
    rw [List.mem_singleton.mp hr]
    exact Pw.zero hp.1)
  unfold F__law_constant
  simp only [dcD, List.map_cons, List.map_nil] at e1
  simp -implicitDefEqProofs (disch := first | omega | (simp only [List.length_map, List.length_cons, List.length_nil, List.length_append, List.length_range, List.length_replicate]; omega)) only [sq_e, sqK_nx, sqK_ret, sqK_bk, sqK_ct, skip_e, setE_e, newE_e, rt_e, brk_e, cnt_e, ifS_e, ifK_t, ifK_f, ifX_t, ifX_f, ifT_t, ifT_f, fncK_ret, fncK_nx, ctK_nx, ctK_ct, ctK_ret, lcK_e, lstK_e, tupK_e, tupK_f, tupK_cat, ftupD_lst, ftupE_e, lenD_f, getD_f, addD_ff, blK_e, ovK_e, vaK_e, ife_e, var_e, ovar_e, cst_e, op1_e, op2_e, op3_e, aN_e, aC_e, tupE_e, lstE_e, cal_e, f1_e, cmp_e, flip_e, neg_e, chn_e, boo_e, tes_e, ff_e, tt_e, andT_e, orT_e, notT_e, fX_e, tX_e, andV_e, orV_e, notV_e, isN_e, yes_e, asg_e, gD_n, gD_t, gDs_n, gDs_c, frz_e, mov_e, movO_e, forE_e, iLst_e, iTp_e, iRng_e, one1_c, two2_c, iZp_e, lcE_e, lc2E_e, wip_n, wip_c, noOwn_n, noOwn_c, noO_no, noO_val, fnc_e, ini_e, met_e, fld_e, slE_e, prK_e, prt_e, prN_e, dic1_e, appK_e, app_e, extK_e, ext_e, stK_e, drpA_e, drpK_e, addD_int, addD_tup, addD_lst, subD_int, modD_int, divD_int, intD_int, intD_bl, ltD_int, leD_int, eqD_int, eqD_bl, lenD_lst, lenD_tup, lenD_scr, tupD_lst, listD_lst, listD_tup, revL_lst, isBool_bl, max2_int, isBD_bl, revT_tup, iEnum_e, iItm_e, iSq_e, isC_i, isLst_l, addI_int, subI_int, iZm_e, seqK_t, seqK_l, dcE_e, getD_l, getD_t, getD_s, rngL_n, rngL_i, rngL_2, sumL_ints, sumT_tup, sumT_lst, allL_bls, anyL_bls, lcT_t, lcT_f, set_0, set_s, szL_le, szL_lt, Option.bind_some, Option.map_some, List.map_cons, List.map_nil, List.length_cons, List.length_nil, List.length_map, List.length_range, List.getElem?_cons_zero, List.getElem?_cons_succ, List.getElem?_map, List.replicate_succ, List.replicate_zero, List.cons_append, List.nil_append, if_true, if_false, ite_true, ite_false, Bool.and_true, Bool.true_and, Bool.and_self, and_true, true_and, and_self, decide_true, decide_false, Bool.not_true, Bool.not_false, eq_self, Int.toNat_natCast, Int.toNat_zero, Nat.reduceAdd, Nat.reduceSub, Nat.reduceLeDiff, Nat.reduceMul, Nat.reduceEqDiff, Int.reduceToNat, Nat.zero_add, Nat.reduceLT, Int.reduceLT, Int.reduceLE, Int.reduceEq, Int.reduceNe, Int.reduceMul, Int.reduceAdd, Int.reducePow, Bool.false_eq_true, reduceCtorEq, not_true_eq_false, not_false_eq_true, ne_eq, Option.getD_some, if_pos, List.length_append, List.length_replicate, msI, maI, msT, maT, msP, maR, mulD_t, keyD_iD, e1]

theorem lunknown_eq {n : Nat} (hn : 1 ≤ n ∧ n ≤ 1000) (i : Nat) : F__law_unknown [nD n, nD i] = some (pT [(unit n i, 1)]) := by
  have e1 : lcRun (gD (.n 2)) yes (cal (f1 intD) (aC (boo (cmp eqD (var 2) (var 1))) aN)) [.val (nD n), .val (nD i), .no] ((List.range n).map fun (k : Nat) => D.int (k : Int)) = some ((unit n i).map .int) :=
    lcRun_m (fun k : Nat => if k = i then (1 : Int) else 0) fun k hk => by
      by_cases h : k = i
      · subst h
        simp_arith []
      · have h2 : (k : Int) = (i : Int) ↔ False := iff_false_intro (by omega)
        simp_arith [h2, h]
  have hu : (unit n i).length = n := unit_len
  unfold F__law_unknown
  simp_arith [e1]
  rfl

theorem lplus_d {p : Nat} (hp : 1 ≤ p) {f g : Poly} {d1 d2 d : D} (hd : addD d1 d2 = some d) (ht : tupK d = some ((f ++ g).map rowD)) (hk : ∀ r ∈ f ++ g, r.1 ≠ []) (hl : f.length + g.length ≤ 1000) : F__law_plus [nD p, d1, d2] = some (pD (mk p (addM (f ++ g)))) := by
  unfold F__law_plus
  simp_arith [hd, ht]
  generalize hl : loop _ _ _ _ = o
  obtain ⟨e, rfl, s4, s5, rfl⟩ := loop_p hl (fun l env => ∃ s4 s5, env = [.val (nD p), .val d1, .val d2, .own (dcD (addM l)), s4, s5])
    ⟨_, _, rfl⟩ (by
      rintro l r e hr hlt ⟨s4, s5, rfl⟩
      have h1 := addM_len l
      have h2 : l.length < 1000 := by rw [List.length_append] at hlt; omega
      refine stp (by simp_arith [imm_e, getK2_m, imm_int, stK_m]; rfl) ?_
      exact ⟨_, _, by rw [addM_snoc]⟩)
  have h1 := addM_len (f ++ g)
  rw [List.length_append] at h1
  have e1 := made_g hp (m := addM (f ++ g)) (by omega) (addM_key (P := fun k => k ≠ []) _ hk)
  simp_arith [e1]
theorem lplus_g {p : Nat} (hp : 1 ≤ p) {f g : Poly} (hk : ∀ r ∈ f ++ g, r.1 ≠ []) (hl : f.length + g.length ≤ 1000) : F__law_plus [nD p, pD f, pD g] = some (pD (mk p (addM (f ++ g)))) :=
  lplus_d hp (addD_ff (by rw [List.length_map, List.length_map]; omega)) (by rw [tupK_cat, List.map_append]) hk hl

def isIn1 (o : Option D) (i : Int) : Bool := match o with
  | some (.int j) => j == i
  | _ => false
theorem isIn1_eq {o : Option D} {i : Int} (h : isIn1 o i = true) : o = some (.int i) := by
  unfold isIn1 at h
  split at h
  · rw [eq_of_beq h]
  · cases h
theorem lless_T : ∀ p ∈ ([2, 3, 5, 7] : List Nat), ∀ e < (13 : Nat), isIn1 (F__law_lessened [nD p, nD e]) (less p (e : Int)) = true := by decide
theorem lless_eq {p : Nat} (h : PP p) {e : Int} (he : 0 ≤ e ∧ e < 13) : F__law_lessened [nD p, .int e] = some (.int (less p e)) := by
  obtain ⟨e', rfl⟩ := Int.eq_ofNat_of_zero_le he.1
  exact isIn1_eq (lless_T p h.mem e' (by omega))
theorem kadd_ix {p n : Nat} {a b : List Int} (ha : a.length = n) (hb : b.length = n) : (List.range n).map (fun j => less p (a.getD j 0 + b.getD j 0)) = kadd p a b := by
  apply List.ext_getElem
  · simp [kadd, ha, hb]
  · intro i h1 h2
    have h3 : i < n := by simpa using h1
    have g1 : a[i]? = some (a[i]'(by omega)) := List.getElem?_eq_getElem (by omega)
    have g2 : b[i]? = some (b[i]'(by omega)) := List.getElem?_eq_getElem (by omega)
    simp [kadd, List.getD_eq_getElem?_getD, g1, g2]
def stD (L : List Int) (k : Nat) : D := .lst [.lst (L.map .int), nD k]
theorem ltake_eq {L : List Int} {k : Nat} {m : Int} (hL : 0 < L.length ∧ L.length ≤ 1000) (hm : 1 ≤ m) : ∃ r : Int, F__law_take [stD L k, .int m] = some (.tup [.int r, stD L (k + 1)]) ∧ 0 ≤ r ∧ r < m := by
  have hi : (k + 1) % L.length < L.length := Nat.mod_lt _ hL.1
  refine ⟨(L.getD ((k + 1) % L.length) 0 / 7) % m, ?_, Int.emod_nonneg _ (by omega), Int.emod_lt_of_pos _ (by omega)⟩
  unfold F__law_take
  rw [fncS_e (j := 0) (m := 2) (n := 2) (ds := [stD L k, D.int m]) rfl (by omega)]
  have x0 : ixN 2 0 = some 0 := rfl
  have x1 : ixN 2 1 = some 1 := rfl
  have em : ((k : Int) + 1) % (L.length : Int) = (((k + 1) % L.length : Nat) : Int) := by push_cast; rfl
  have hg : getD (.lst (L.map .int)) (.int (((k + 1) % L.length : Nat) : Int)) = some (.int (L.getD ((k + 1) % L.length) 0)) := by
    simp_arith []
    rw [List.getElem?_eq_getElem hi, List.getD_eq_getElem?_getD, List.getElem?_eq_getElem hi]
    rfl
  simp -implicitDefEqProofs (disch := first | omega | (simp only [List.length_map, List.length_cons, List.length_nil, List.length_append, List.length_range, List.length_replicate]; omega)) only [sq_e, sqK_nx, sqK_ret, sqK_bk, sqK_ct, skip_e, setE_e, newE_e, rt_e, brk_e, cnt_e, ifS_e, ifK_t, ifK_f, ifX_t, ifX_f, ifT_t, ifT_f, fncK_ret, fncK_nx, ctK_nx, ctK_ct, ctK_ret, lcK_e, lstK_e, tupK_e, tupK_f, tupK_cat, ftupD_lst, ftupE_e, lenD_f, getD_f, addD_ff, blK_e, ovK_e, vaK_e, ife_e, var_e, ovar_e, cst_e, op1_e, op2_e, op3_e, aN_e, aC_e, tupE_e, lstE_e, cal_e, f1_e, cmp_e, flip_e, neg_e, chn_e, boo_e, tes_e, ff_e, tt_e, andT_e, orT_e, notT_e, fX_e, tX_e, andV_e, orV_e, notV_e, isN_e, yes_e, asg_e, gD_n, gD_t, gDs_n, gDs_c, frz_e, mov_e, movO_e, forE_e, iLst_e, iTp_e, iRng_e, one1_c, two2_c, iZp_e, lcE_e, lc2E_e, wip_n, wip_c, noOwn_n, noOwn_c, noO_no, noO_val, fnc_e, ini_e, met_e, fld_e, slE_e, prK_e, prt_e, prN_e, dic1_e, appK_e, app_e, extK_e, ext_e, stK_e, drpA_e, drpK_e, addD_int, addD_tup, addD_lst, subD_int, mulD_l, mulD_r, modD_int, divD_int, intD_int, intD_bl, ltD_int, leD_int, eqD_int, eqD_bl, lenD_lst, lenD_tup, lenD_scr, tupD_lst, listD_lst, listD_tup, revL_lst, isBool_bl, max2_int, isBD_bl, revT_tup, iEnum_e, iItm_e, iSq_e, isC_i, isLst_l, addI_int, subI_int, iZm_e, seqK_t, seqK_l, dcE_e, getD_t, getD_s, rngL_n, rngL_i, rngL_2, sumL_ints, sumT_tup, sumT_lst, allL_bls, anyL_bls, lcT_t, lcT_f, set_0, set_s, szL_le, szL_lt, Option.bind_some, Option.map_some, List.map_cons, List.map_nil, List.length_cons, List.length_nil, List.length_map, List.length_range, List.getElem?_cons_zero, List.getElem?_cons_succ, List.getElem?_map, List.replicate_succ, List.replicate_zero, List.cons_append, List.nil_append, if_true, if_false, ite_true, ite_false, Bool.and_true, Bool.true_and, Bool.and_self, and_true, true_and, and_self, decide_true, decide_false, Bool.not_true, Bool.not_false, eq_self, Int.toNat_natCast, Int.toNat_zero, Nat.reduceAdd, Nat.reduceSub, Nat.reduceLeDiff, Nat.reduceMul, Nat.reduceEqDiff, Int.reduceToNat, Nat.zero_add, Nat.reduceLT, Int.reduceLT, Int.reduceLE, Int.reduceEq, Int.reduceNe, Int.reduceMul, Int.reduceAdd, Int.reducePow, Bool.false_eq_true, reduceCtorEq, not_true_eq_false, not_false_eq_true, ne_eq, Option.getD_some, if_pos, List.length_append, List.length_replicate, msI, maI, msT, maT, msP, maR, stD, stS_e, slK_e, getS_e, gsK_e, x0, x1, rtS_e, puE_e, slfK_e, fnS_ret, List.set, List.getD, em, hg]
  rw [show nD (k + 1) = D.int ((k : Int) + 1) from by unfold nD; push_cast; rfl]

theorem idx_nodup : ∀ {ns : List Str} {i : Nat} {c : Str}, ns.Nodup → ns[i]? = some c → idxf ns c = i
  | [], _, _, _, h => by simp at h
  | y :: ys, 0, c, _, h => by
    have h : y = c := by simpa using h
    simp [idxf, h]
  | y :: ys, i + 1, c, hn, h => by
    have h : ys[i]? = some c := by simpa using h
    have hne : y ≠ c := fun e => (List.nodup_cons.mp hn).1 (e ▸ List.mem_of_getElem? h)
    have ih := idx_nodup (List.nodup_cons.mp hn).2 h
    simp [idxf, hne, ih]

theorem lscaled_d {p n : Nat} (hp : 2 ≤ p ∧ p ≤ 1000) {f : Poly} {d : D} (hd : tupK d = some (f.map rowD)) (hf : Can p n f) (hfl : f.length ≤ 1000) (c : Int) : F__law_scaled [nD p, d, .int c] = some (pD (mk p (scal f c))) := by
  have e1 : lcRun (gD (.t [(.n 4), (.n 5)])) yes (tupE (aC (var 4) (aC (op2 modD (cal (f1 intD) (aC (op2 mulD (var 5) (var 2)) aN)) (var 0)) aN))) [.val (nD p), .val d, .val (.int c), .no, .no, .no, .no] (f.map rowD) = some ((f.map fun r => (r.1, r.2 * c % (p : Int))).map rowD) :=
    lcRun_m (enc := rowD) (enc' := rowD) (fun r : List Int × Int => (r.1, r.2 * c % (p : Int))) fun r hr => by
      have h1 := hf.1 r hr
      have hr4 : -18446744073709551616 < r.2 ∧ r.2 < 18446744073709551616 := by omega
      simp_arith []
  have e2 : lcRun (gD (.n 6)) (cmp (neg eqD) (op2 getD (var 6) (cst (.int 1))) (cst (.int 0))) (var 6) [.val (nD p), .val d, .val (.int c), .val (.lst ((f.map fun r => (r.1, r.2 * c % (p : Int))).map rowD)), .no, .no, .no] ((f.map fun r => (r.1, r.2 * c % (p : Int))).map rowD) = some ((((f.map fun r => (r.1, r.2 * c % (p : Int))).filter fun r => r.2 ≠ 0).map id).map rowD) :=
    lcRun_f (enc := rowD) (enc' := rowD) (fun r : List Int × Int => decide (r.2 ≠ 0)) id fun r hr => by
      by_cases h : r.2 = 0
      · simp_arith [h]
      · have h2 : r.2 = 0 ↔ False := iff_false_intro h
        simp_arith [h2, id]
  rw [List.map_id] at e2
  have e3 := lscal_eq (c := c) (show 0 < p by omega) hf
  unfold lscal at e3
  rw [e3] at e2
  unfold F__law_scaled
  simp_arith [hd, e1, e2]
theorem ltimes_dd {p n : Nat} (h : PP p) {f g : Poly} {d1 d2 : D} (hd1 : tupK d1 = some (f.map rowD)) (hd2 : tupK d2 = some (g.map rowD)) (hn : 1 ≤ n ∧ n ≤ 10) (hf : Pol p n f) (hg : Pol p n g) (hfl : f.length ≤ 100) (hgl : g.length ≤ 100) : F__law_times [nD p, d1, d2] = some (pD (mk p (addM (prodL p f g)))) := by
  have hp := h.bd
  unfold F__law_times
  simp_arith [hd1]
  generalize hl : loop _ _ _ _ = o
  obtain ⟨e, rfl, s4, s5, s6, s7, s8, rfl⟩ := loop_p hl (fun l env => ∃ s4 s5 s6 s7 s8, env = [.val (nD p), .val d1, .val d2, .own (dcD (addM (prodL p l g))), s4, s5, s6, s7, s8, .no])
    ⟨_, _, _, _, _, rfl⟩ (by
      rintro l r e hr hlt ⟨s4, s5, s6, s7, s8, rfl⟩
      have hr2 := hf r hr
      have hll := prodL_len (p := p) (f := l) (g := g)
      have hle : l.length * g.length ≤ 100 * 100 := Nat.mul_le_mul (by omega) hgl
      simp_arith [hd2]
      generalize hl : loop _ _ _ _ = o
      obtain ⟨e, rfl, s6, s7, s8, rfl⟩ := loop_p hl (fun l2 env => ∃ s6 s7 s8, env = [.val (nD p), .val d1, .val d2, .own (dcD (addM (prodL p l g ++ l2.map fun s => (kadd p r.1 s.1, r.2 * s.2)))), .val (iD r.1), .val (.int r.2), s6, s7, s8, .no])
        ⟨_, _, _, by rw [List.map_nil, List.append_nil]⟩ (by
          rintro l2 s e hs hlt2 ⟨s6, s7, s8, rfl⟩
          have hs2 := hg s hs
          have hr1 := hr2.1.1
          have hs1 := hs2.1.1
          have e1 : lcRun (gD (.n 9)) yes (cal F__law_lessened (aC (var 0) (aC (op2 addD (op2 getD (var 4) (var 9)) (op2 getD (var 6) (var 9))) aN))) [.val (nD p), .val d1, .val d2, .own (dcD (addM (prodL p l g ++ l2.map fun s => (kadd p r.1 s.1, r.2 * s.2)))), .val (iD r.1), .val (.int r.2), .val (iD s.1), .val (.int s.2), s8, .no] ((List.range r.1.length).map fun (k : Nat) => D.int (k : Int)) = some ((kadd p r.1 s.1).map .int) := by
            rw [hr1, ← kadd_ix hr1 hs1]
            refine lcRun_m (fun j : Nat => less p (r.1.getD j 0 + s.1.getD j 0)) fun j hj => ?_
            have hj2 : j < n := List.mem_range.mp hj
            have g1 : r.1[j]? = some (r.1[j]'(by omega)) := List.getElem?_eq_getElem (by omega)
            have g2 : s.1[j]? = some (s.1[j]'(by omega)) := List.getElem?_eq_getElem (by omega)
            have b1 := hr2.1.2 _ (List.getElem_mem (show j < r.1.length by omega))
            have b2 := hs2.1.2 _ (List.getElem_mem (show j < s.1.length by omega))
            have h1 := lless_eq h (e := r.1[j]'(by omega) + s.1[j]'(by omega)) (by omega)
            simp_arith [g1, g2, h1, List.getD_eq_getElem?_getD]
          have hm := addM_len (prodL p l g ++ l2.map fun s => (kadd p r.1 s.1, r.2 * s.2))
          rw [List.length_append, List.length_map, hll] at hm
          have hr4 : -18446744073709551616 < r.2 ∧ r.2 < 18446744073709551616 := by omega
          refine stp (by simp_arith [e1, imm_e, getK2_m, imm_int, stK_m]; rfl) ?_
          exact ⟨_, _, _, by rw [List.map_append, ← List.append_assoc, List.map_cons, List.map_nil, addM_snoc]⟩)
      refine stp (by simp_arith []; rfl) ?_
      exact ⟨_, _, _, _, _, by rw [prodL_app, prodL_one]⟩)
  have h1 := addM_len (prodL p f g)
  have hll := prodL_len (p := p) (f := f) (g := g)
  have hle : f.length * g.length ≤ 100 * 100 := Nat.mul_le_mul hfl hgl
  have e1 := made_g (p := p) (m := addM (prodL p f g)) (by omega) (by omega) (fun r hr => ((addM_pw _ (prodL_pw hp.1 hf.pw hg.pw)) r hr).ne hn.1)
  simp_arith [e1]
theorem lraised_d {p n : Nat} (h : PP p) {f : Poly} {d : D} (hd : tupK d = some (f.map rowD)) (hn : 1 ≤ n ∧ n ≤ 10) (hf : Pol p n f) (hfl : f.length ≤ 100) (hpt : (pts p n).length ≤ 100) {e : Int} (he : 0 ≤ e ∧ e < 1000) : ∃ d', F__law_raised [nD p, nD n, d, .int e] = some d' ∧ tupK d' = some ((powP p n f e.toNat).map rowD) := by
  have hp := h.bd
  have h0 : oneP p n = [(List.replicate n 0, 1)] := one_eq hp.1
  unfold F__law_raised
  simp -implicitDefEqProofs (disch := first | omega | (simp only [List.length_map, List.length_cons, List.length_nil, List.length_append, List.length_range, List.length_replicate]; omega)) only [sq_e, sqK_nx, sqK_ret, sqK_bk, sqK_ct, skip_e, setE_e, newE_e, rt_e, brk_e, cnt_e, ifS_e, ifK_t, ifK_f, ifX_t, ifX_f, ifT_t, ifT_f, fncK_ret, fncK_nx, ctK_nx, ctK_ct, ctK_ret, lcK_e, lstK_e, tupK_e, tupK_f, tupK_cat, ftupD_lst, ftupE_e, lenD_f, getD_f, addD_ff, blK_e, ovK_e, vaK_e, ife_e, var_e, ovar_e, cst_e, op1_e, op2_e, op3_e, aN_e, aC_e, tupE_e, lstE_e, cal_e, f1_e, cmp_e, flip_e, neg_e, chn_e, boo_e, tes_e, ff_e, tt_e, andT_e, orT_e, notT_e, fX_e, tX_e, andV_e, orV_e, notV_e, isN_e, yes_e, asg_e, gD_n, gD_t, gDs_n, gDs_c, frz_e, mov_e, movO_e, forE_e, iLst_e, iTp_e, iRng_e, one1_c, two2_c, iZp_e, lcE_e, lc2E_e, wip_n, wip_c, noOwn_n, noOwn_c, noO_no, noO_val, fnc_e, ini_e, met_e, fld_e, slE_e, prK_e, prt_e, prN_e, dic1_e, appK_e, app_e, extK_e, ext_e, stK_e, drpA_e, drpK_e, addD_int, addD_tup, addD_lst, subD_int, modD_int, divD_int, intD_int, intD_bl, ltD_int, leD_int, eqD_int, eqD_bl, lenD_lst, lenD_tup, lenD_scr, tupD_lst, listD_lst, listD_tup, revL_lst, isBool_bl, max2_int, isBD_bl, revT_tup, iEnum_e, iItm_e, iSq_e, isC_i, isLst_l, addI_int, subI_int, iZm_e, seqK_t, seqK_l, dcE_e, getD_l, getD_t, getD_s, rngL_n, rngL_i, rngL_2, sumL_ints, sumT_tup, sumT_lst, allL_bls, anyL_bls, lcT_t, lcT_f, set_0, set_s, szL_le, szL_lt, Option.bind_some, Option.map_some, List.map_cons, List.map_nil, List.length_cons, List.length_nil, List.length_map, List.length_range, List.getElem?_cons_zero, List.getElem?_cons_succ, List.getElem?_map, List.replicate_succ, List.replicate_zero, List.cons_append, List.nil_append, if_true, if_false, ite_true, ite_false, Bool.and_true, Bool.true_and, Bool.and_self, and_true, true_and, and_self, decide_true, decide_false, Bool.not_true, Bool.not_false, eq_self, Int.toNat_natCast, Int.toNat_zero, Nat.reduceAdd, Nat.reduceSub, Nat.reduceLeDiff, Nat.reduceMul, Nat.reduceEqDiff, Int.reduceToNat, Nat.zero_add, Nat.reduceLT, Int.reduceLT, Int.reduceLE, Int.reduceEq, Int.reduceNe, Int.reduceMul, Int.reduceAdd, Int.reducePow, Bool.false_eq_true, reduceCtorEq, not_true_eq_false, not_false_eq_true, ne_eq, Option.getD_some, if_pos, List.length_append, List.length_replicate, msI, maI, msT, maT, msP, maR, mulD_t]
  generalize hl : loop _ _ _ _ = o
  obtain ⟨e2, rfl, s4, d4, h4, rfl⟩ := loop_o hl (fun i env => ∃ s4 d4, tupK d4 = some ((powP p n f i).map rowD) ∧ env = [.val (nD p), .val (nD n), .val d, .val (.int e), .val d4, s4])
    ⟨_, _, by rw [powP, h0]; rfl, rfl⟩ (by
      rintro i k e2 hk ⟨s4, d4, h4, rfl⟩
      have c1 := powP_can (n := n) hp.1 hf.pw i
      have c2 := c1.len
      have h1 := ltimes_dd h (f := powP p n f i) (g := f) h4 hd hn c1.pol hf (by omega) hfl
      refine stp (by simp_arith [h1]; rfl) ?_
      exact ⟨_, _, by rw [powP]; rfl, rfl⟩)
  simp_arith []
  exact ⟨d4, rfl, by simpa using h4⟩
theorem few_eq {p : Nat} (hp : 2 ≤ p) {e : Int} (he : 0 ≤ e) : (if e = 0 then (0 : Int) else (e - 1) % ((p : Int) - 1) + 1) = less p e := by
  unfold less
  by_cases h0 : e = 0
  · rw [if_pos h0, h0, if_pos (by omega)]
  · rw [if_neg h0]
    by_cases h1 : e < (p : Int)
    · rw [if_pos h1, Int.emod_eq_of_lt (by omega) (by omega)]
      omega
    · rw [if_neg h1]
theorem forEe_e {it : DEnv → Option (List D × DEnv)} {g : Tg} {b : Sx} {e : DEnv} : forEe it g b e = (it e).bind fun p => loop (gD g) b p.1 p.2 := rfl
theorem iRngE_e {a : Ee} {e : DEnv} : iRngE a e = (a e).bind fun p => (rngL [p.1]).map fun l => (l, p.2) := rfl
theorem asgEe_e {g : Tg} {a : Ee} {e : DEnv} : asgEe g a e = (a e).bind fun p => (gD g p.1 p.2).map .nx := rfl
theorem booE_e {t : Et} {e : DEnv} : booE t e = (t e).map fun p => (.bl p.1, p.2) := rfl
theorem bE_e {f : D → Option D} {a : Ee} {e : DEnv} : bE f a e = (a e).bind fun p => (f p.1).map fun d => (d, p.2) := rfl
def andVK (b : Ee) : D × DEnv → Option (D × DEnv)
  | (.bl true, e) => b e
  | (.bl false, e) => some (.bl false, e)
  | _ => none
theorem andVE_e {a b : Ee} {e : DEnv} : andVE a b e = (a e).bind (andVK b) := by
  unfold andVE
  congr; funext p
  obtain ⟨d, e⟩ := p
  cases d <;> try rfl
  rename_i c
  cases c <;> rfl
theorem andVK_t {b : Ee} {e : DEnv} : andVK b (.bl true, e) = b e := rfl
theorem andVK_f {b : Ee} {e : DEnv} : andVK b (.bl false, e) = some (.bl false, e) := rfl
theorem lgap_eq {L : List Int} {k : Nat} (hL : 0 < L.length ∧ L.length ≤ 1000) : ∃ g, F__law_gap [stD L k] = some (.tup [txD g, stD L (k + 1)]) ∧ Gap g ∧ g.length ≤ 2 := by
  obtain ⟨r, t, h1, h2⟩ := ltake_eq (L := L) (k := k) (m := 5) hL (by omega)
  have key : ∀ g : List Nat, getD (.lst [txD [], txD [], txD [], txD [32], txD [32, 32]]) (.int r) = some (txD g) → F__law_gap [stD L k] = some (.tup [txD g, stD L (k + 1)]) := fun g hg => by
    have e0 : (D.str "") = txD [] := rfl
    have e1 : (D.str " ") = txD [32] := rfl
    have e2 : (D.str "  ") = txD [32, 32] := rfl
    unfold F__law_gap
    rw [fncS_e (j := 0) (m := 1) (n := 1) (ds := [stD L k]) rfl (by omega)]
    simp -implicitDefEqProofs (disch := first | omega | (simp only [List.length_map, List.length_cons, List.length_nil, List.length_append, List.length_range, List.length_replicate]; omega)) only [sq_e, sqK_nx, sqK_ret, sqK_bk, sqK_ct, skip_e, setE_e, newE_e, rt_e, brk_e, cnt_e, ifS_e, ifK_t, ifK_f, ifX_t, ifX_f, ifT_t, ifT_f, fncK_ret, fncK_nx, ctK_nx, ctK_ct, ctK_ret, lcK_e, lstK_e, tupK_e, tupK_f, tupK_cat, ftupD_lst, ftupE_e, lenD_f, getD_f, addD_ff, blK_e, ovK_e, vaK_e, ife_e, var_e, ovar_e, cst_e, op1_e, op2_e, op3_e, aN_e, aC_e, tupE_e, lstE_e, cal_e, f1_e, cmp_e, flip_e, neg_e, chn_e, boo_e, tes_e, ff_e, tt_e, andT_e, orT_e, notT_e, fX_e, tX_e, andV_e, orV_e, notV_e, isN_e, yes_e, asg_e, gD_n, gD_t, gDs_n, gDs_c, frz_e, mov_e, movO_e, forE_e, iLst_e, iTp_e, iRng_e, one1_c, two2_c, iZp_e, lcE_e, lc2E_e, wip_n, wip_c, noOwn_n, noOwn_c, noO_no, noO_val, fnc_e, ini_e, met_e, fld_e, slE_e, prK_e, prt_e, prN_e, dic1_e, appK_e, app_e, extK_e, ext_e, stK_e, drpA_e, drpK_e, addD_int, addD_tup, addD_lst, subD_int, mulD_l, mulD_r, modD_int, divD_int, intD_int, intD_bl, ltD_int, leD_int, eqD_int, eqD_bl, lenD_lst, lenD_tup, lenD_scr, tupD_lst, listD_lst, listD_tup, revL_lst, isBool_bl, max2_int, isBD_bl, revT_tup, iEnum_e, iItm_e, iSq_e, isC_i, isLst_l, addI_int, subI_int, iZm_e, seqK_t, seqK_l, dcE_e, getD_t, getD_s, rngL_n, rngL_i, rngL_2, sumL_ints, sumT_tup, sumT_lst, allL_bls, anyL_bls, lcT_t, lcT_f, set_0, set_s, szL_le, szL_lt, Option.bind_some, Option.map_some, List.map_cons, List.map_nil, List.length_cons, List.length_nil, List.length_map, List.length_range, List.getElem?_cons_zero, List.getElem?_cons_succ, List.getElem?_map, List.replicate_succ, List.replicate_zero, List.cons_append, List.nil_append, if_true, if_false, ite_true, ite_false, Bool.and_true, Bool.true_and, Bool.and_self, and_true, true_and, and_self, decide_true, decide_false, Bool.not_true, Bool.not_false, eq_self, Int.toNat_natCast, Int.toNat_zero, Nat.reduceAdd, Nat.reduceSub, Nat.reduceLeDiff, Nat.reduceMul, Nat.reduceEqDiff, Int.reduceToNat, Nat.zero_add, Nat.reduceLT, Int.reduceLT, Int.reduceLE, Int.reduceEq, Int.reduceNe, Int.reduceMul, Int.reduceAdd, Int.reducePow, Bool.false_eq_true, reduceCtorEq, not_true_eq_false, not_false_eq_true, ne_eq, Option.getD_some, if_pos, List.length_append, List.length_replicate, msI, maI, msT, maT, msP, maR, e0, e1, e2, eop2_e, puE_e, eCal_e, slfK_e, retK_e, t, hg, rtS_e, fnS_ret, List.set, List.getD]
  have hr : r = 0 ∨ r = 1 ∨ r = 2 ∨ r = 3 ∨ r = 4 := by omega
  rcases hr with rfl | rfl | rfl | rfl | rfl
  · exact ⟨[], key _ rfl, by simp [Gap], by simp⟩
  · exact ⟨[], key _ rfl, by simp [Gap], by simp⟩
  · exact ⟨[], key _ rfl, by simp [Gap], by simp⟩
  · exact ⟨[32], key _ rfl, by simp [Gap], by simp⟩
  · exact ⟨[32, 32], key _ rfl, by simp [Gap], by simp⟩

theorem addT {a b : List Nat} (h : a.length + b.length ≤ 100000) : addD (txD a) (txD b) = some (txD (a ++ b)) := by
  have hl : (⟨a.toArray⟩ : Str).length + (⟨b.toArray⟩ : Str).length ≤ szL := by
    show a.toArray.size + b.toArray.size ≤ szL
    unfold szL; simp; omega
  show (if (⟨a.toArray⟩ : Str).length + (⟨b.toArray⟩ : Str).length ≤ szL then some (D.str (⟨a.toArray⟩ ++ ⟨b.toArray⟩)) else none) = _
  rw [if_pos hl]
  show some (D.str ⟨a.toArray ++ b.toArray⟩) = _
  unfold txD
  simp
theorem digV_0 (l : List Nat) : digV (48 :: l) = digV l := by simp [digV]
abbrev Ch (c : Nat) : Prop := c < 128 ∧ c ≠ 61 ∧ c ≠ 10
def LRes (p : Nat) (ns : List Str) (L : List Int) (m : Nat) (R : List Nat → Poly → Prop) (X : Option D) : Prop := ∃ s f dL k', X = some (.tup [.tup [txD s, dL], stD L k']) ∧ tupK dL = some (f.map rowD) ∧ Can p ns.length f ∧ R s f ∧ s.length ≤ m ∧ ∀ c ∈ s, Ch c
def BaseR (p : Nat) (ns : List Str) (d : Nat) (s : List Nat) (f : Poly) : Prop := Hd s ∧ ∀ fu, d ≤ fu → Rd (spcD p ns) (F_Reader_base_g (F_Reader_terms_rec fu)) s (pD f) []
def FacR (p : Nat) (ns : List Str) (d : Nat) (s : List Nat) (f : Poly) : Prop := Hd s ∧ ∀ fu, d ≤ fu → Rd (spcD p ns) (F_Reader_factor_g (F_Reader_terms_rec fu)) s (pD f) [94]
def PrR (p : Nat) (ns : List Str) (d : Nat) (s : List Nat) (f : Poly) : Prop := Hd s ∧ ∀ fu, d ≤ fu → Rd (spcD p ns) (F_Reader_product_g (F_Reader_terms_rec fu)) s (pD f) [94, 42]
def SumR (p : Nat) (ns : List Str) (d : Nat) (s : List Nat) (f : Poly) : Prop := ∀ fu, d + 1 ≤ fu → Rd (spcD p ns) (F_Reader_terms_rec fu) s (pD f) [94, 42, 43, 45]
theorem gap_sm {g : List Nat} (h : Gap g) : ∀ c ∈ g, Ch c := fun c hc => by rw [h c hc]; decide
theorem ld_ch : ∀ c ∈ LTR ++ DG, Ch c := by decide +kernel
theorem dg_hd {d : List Nat} (h : Dg d) : d.getD 0 0 ≠ 32 ∧ d.getD 0 0 ≠ 45 := by
  have hd0 : d.getD 0 0 ∈ DG := by
    cases d with
    | nil => exact absurd rfl h.1
    | cons c d => exact h.2.1 c List.mem_cons_self
  have : ∀ c ∈ DG, c ≠ 32 ∧ c ≠ 45 := by decide
  exact this _ hd0
theorem nm_hd {w : List Nat} (h : NmOk w) : w.getD 0 0 ≠ 32 ∧ w.getD 0 0 ≠ 45 := by
  have : ∀ c ∈ LTR, c ≠ 32 ∧ c ≠ 45 := by decide
  exact this _ h.2.1
theorem num_menu {r : Int} (h : 0 ≤ r ∧ r < 7) : ∃ (v : Nat) (dg : List Nat), getD (.lst [.int 0, .int 1, .int 2, .int 7, .int 12, .int 999999999, .int 100]) (.int r) = some (nD v) ∧ strI (nD v) = some (txD dg) ∧ Dg dg ∧ digV dg = v ∧ (v < 20 → dg.length ≤ 2) := by
  have hr : r = 0 ∨ r = 1 ∨ r = 2 ∨ r = 3 ∨ r = 4 ∨ r = 5 ∨ r = 6 := by omega
  rcases hr with rfl | rfl | rfl | rfl | rfl | rfl | rfl
  · exact ⟨0, [48], rfl, rfl, ⟨by simp, by decide, by simp⟩, rfl, by simp⟩
  · exact ⟨1, [49], rfl, rfl, ⟨by simp, by decide, by simp⟩, rfl, by simp⟩
  · exact ⟨2, [50], rfl, rfl, ⟨by simp, by decide, by simp⟩, rfl, by simp⟩
  · exact ⟨7, [55], rfl, rfl, ⟨by simp, by decide, by simp⟩, rfl, by simp⟩
  · exact ⟨12, [49, 50], rfl, rfl, ⟨by simp, by decide, by simp⟩, rfl, by simp⟩
  · exact ⟨999999999, [57, 57, 57, 57, 57, 57, 57, 57, 57], rfl, rfl, ⟨by simp, by decide, by simp⟩, rfl, by simp⟩
  · exact ⟨100, [49, 48, 48], rfl, rfl, ⟨by simp, by decide, by simp⟩, rfl, by simp⟩
section
variable {p : Nat} {ns : List Str} {ws : List (List Nat)} {L : List Int} {k : Nat} {t : Fn}
theorem lbase_eq (h : PP p) (hP : Pl ns) (hns : 1 ≤ ns.length ∧ ns.length ≤ 10) (hnd : ns.Nodup) (hws : ns = ws.map fun w => (⟨w.toArray⟩ : Str)) (hw : ∀ w ∈ ws, NmOk w) (hL : 0 < L.length ∧ L.length ≤ 1000) {d M : Nat} (hM : M ≤ 90000)
    (ht : ∀ d', d = d' + 1 → ∀ k, LRes p ns L M (SumR p ns d') (t [nD p, .lst (ns.map .str), stD L k, nD d'])) : LRes p ns L (M + 20) (BaseR p ns d) (F__law_base_g t [nD p, .lst (ns.map .str), stD L k, nD d]) := by
  have hp := h.bd
  have e0 : (D.str "") = txD [] := rfl
  have e00 : (D.str "00") = txD [48, 48] := rfl
  have e40 : (D.str "(") = txD [40] := rfl
  have e41 : (D.str ")") = txD [41] := rfl
  obtain ⟨r, t1, hr0, hr5⟩ := ltake_eq (L := L) (k := k) (m := 5) hL (by omega)
  by_cases c2 : r < 2
  · have c2' : r < 2 ↔ True := iff_true_intro c2
    obtain ⟨r2, t2, hr2, hr2'⟩ := ltake_eq (L := L) (k := k + 1) (m := 7) hL (by omega)
    obtain ⟨v, dg, v1, v2, v3, v4, v5⟩ := num_menu ⟨hr2, hr2'⟩
    have hcst := lconstant_eq (p := p) (n := ns.length) (by omega) (by omega) (v : Int)
    have fin : ∀ (ds : List Nat) (g1 g2 : List Nat) (X : Option D) (k' : Nat), Dg ds → digV ds = v → Gap g1 → g1.length ≤ 2 → Gap g2 → g2.length ≤ 2 → X = some (.tup [.tup [txD (g1 ++ ds ++ g2), pD (mk p [(List.replicate ns.length 0, (v : Int))])], stD L k']) → LRes p ns L (M + 20) (BaseR p ns d) X := fun ds g1 g2 X k' hd hv hg1 hl1 hg2 hl2 hX => by
      refine ⟨_, _, _, k', hX, rfl, mk_can (by omega) (fun r hr => by rw [List.mem_singleton.mp hr]; exact Pw.zero (by omega)) one_nk, ⟨?_, fun fu _ => ?_⟩, ?_, ?_⟩
      · exact (hd_base hg1 hd.1 (dg_hd hd).1 (dg_hd hd).2).app _
      · rw [← hv]
        exact rd_num (by omega) hp.1 hg1 hd hg2
      · simp only [List.length_append]
        have := hd.2.2
        omega
      · intro c hc
        simp only [List.mem_append] at hc
        rcases hc with (hc | hc) | hc
        · exact gap_sm hg1 c hc
        · exact ld_ch c (List.mem_append_right _ (hd.2.1 c hc))
        · exact gap_sm hg2 c hc
    by_cases c20 : v < 20
    · have c20' : ((v : Int) < 20) ↔ True := iff_true_intro (by omega)
      obtain ⟨r3, t3, hr3, hr3'⟩ := ltake_eq (L := L) (k := k + 1 + 1) (m := 5) hL (by omega)
      obtain ⟨g1, s1, hg1, hl1⟩ := lgap_eq (L := L) (k := k + 1 + 1 + 1) hL
      obtain ⟨g2, s2, hg2, hl2⟩ := lgap_eq (L := L) (k := k + 1 + 1 + 1 + 1) hL
      have hdl := v5 c20
      by_cases c0 : r3 = 0
      · have c0' : r3 = 0 ↔ True := iff_true_intro c0
        have a0 : addD (txD [48, 48]) (txD dg) = some (txD (48 :: 48 :: dg)) := addT (a := [48, 48]) (b := dg) (by simp; omega)
        have a1 := addT (a := g1) (b := 48 :: 48 :: dg) (by simp; omega)
        have a2 := addT (a := g1 ++ (48 :: 48 :: dg)) (b := g2) (by simp; omega)
        have gg : getD (.lst [txD [], txD [48, 48]]) (.int 1) = some (txD [48, 48]) := rfl
        refine fin (48 :: 48 :: dg) g1 g2 _ (k + 1 + 1 + 1 + 1 + 1) ⟨by simp, fun c hc => ?_, by simp; omega⟩ (by rw [digV_0, digV_0]; exact v4) hg1 hl1 hg2 hl2 ?_
        · rcases List.mem_append.mp (show c ∈ [48, 48] ++ dg from hc) with hc | hc
          · have : ∀ c ∈ [48, 48], c ∈ DG := by decide
            exact this c hc
          · exact v3.2.1 c hc
        · unfold F__law_base_g
          rw [fncS_e (j := 2) (m := 4) (n := 9) (ds := [nD p, .lst (ns.map .str), stD L k, nD d]) rfl (by omega)]
          simp -implicitDefEqProofs (disch := first | omega | (simp only [List.length_map, List.length_cons, List.length_nil, List.length_append, List.length_range, List.length_replicate]; omega)) only [sq_e, sqK_nx, sqK_ret, sqK_bk, sqK_ct, skip_e, setE_e, newE_e, rt_e, brk_e, cnt_e, ifS_e, ifK_t, ifK_f, ifX_t, ifX_f, ifT_t, ifT_f, fncK_ret, fncK_nx, ctK_nx, ctK_ct, ctK_ret, lcK_e, lstK_e, tupK_e, tupK_f, tupK_cat, ftupD_lst, ftupE_e, lenD_f, getD_f, addD_ff, blK_e, ovK_e, vaK_e, ife_e, var_e, ovar_e, cst_e, op1_e, op2_e, op3_e, aN_e, aC_e, tupE_e, lstE_e, cal_e, f1_e, cmp_e, flip_e, neg_e, chn_e, boo_e, tes_e, ff_e, tt_e, andT_e, orT_e, notT_e, fX_e, tX_e, andV_e, orV_e, notV_e, isN_e, yes_e, asg_e, gD_n, gD_t, gDs_n, gDs_c, frz_e, mov_e, movO_e, forE_e, iLst_e, iTp_e, iRng_e, one1_c, two2_c, iZp_e, lcE_e, lc2E_e, wip_n, wip_c, noOwn_n, noOwn_c, noO_no, noO_val, fnc_e, ini_e, met_e, fld_e, slE_e, prK_e, prt_e, prN_e, dic1_e, appK_e, app_e, extK_e, ext_e, stK_e, drpA_e, drpK_e, addD_int, addD_tup, addD_lst, subD_int, mulD_l, mulD_r, modD_int, divD_int, intD_int, intD_bl, ltD_int, leD_int, eqD_int, eqD_bl, lenD_lst, lenD_tup, lenD_scr, tupD_lst, listD_lst, listD_tup, revL_lst, isBool_bl, max2_int, isBD_bl, revT_tup, iEnum_e, iItm_e, iSq_e, isC_i, isLst_l, addI_int, subI_int, iZm_e, seqK_t, seqK_l, dcE_e, getD_t, getD_s, rngL_n, rngL_i, rngL_2, sumL_ints, sumT_tup, sumT_lst, allL_bls, anyL_bls, lcT_t, lcT_f, set_0, set_s, szL_le, szL_lt, Option.bind_some, Option.map_some, List.map_cons, List.map_nil, List.length_cons, List.length_nil, List.length_map, List.length_range, List.getElem?_cons_zero, List.getElem?_cons_succ, List.getElem?_map, List.replicate_succ, List.replicate_zero, List.cons_append, List.nil_append, if_true, if_false, ite_true, ite_false, Bool.and_true, Bool.true_and, Bool.and_self, and_true, true_and, and_self, decide_true, decide_false, Bool.not_true, Bool.not_false, eq_self, Int.toNat_natCast, Int.toNat_zero, Nat.reduceAdd, Nat.reduceSub, Nat.reduceLeDiff, Nat.reduceMul, Nat.reduceEqDiff, Int.reduceToNat, Nat.zero_add, Nat.reduceLT, Int.reduceLT, Int.reduceLE, Int.reduceEq, Int.reduceNe, Int.reduceMul, Int.reduceAdd, Int.reducePow, Bool.false_eq_true, reduceCtorEq, not_true_eq_false, not_false_eq_true, ne_eq, Option.getD_some, if_pos, List.length_append, List.length_replicate, msI, maI, msT, maT, msP, maR, e0, e00, List.set, List.getD, setEe_e, eop2_e, puE_e, eCal_e, slfK_e, retK_e, t1, c2', t2, v1, andVE_e, c20', andVK_t, booE_e, cmpE_e, t3, c0', bE_e, gg, v2, a0, s1, a1, s2, a2, eTup_e, eC_e, eN_e, hcst, rtS_e, fnS_ret]
      · have c0' : r3 = 0 ↔ False := iff_false_intro c0
        have a0 : addD (txD []) (txD dg) = some (txD dg) := addT (a := []) (b := dg) (by simp; omega)
        have a1 := addT (a := g1) (b := dg) (by omega)
        have a2 := addT (a := g1 ++ dg) (b := g2) (by simp; omega)
        have gg : getD (.lst [txD [], txD [48, 48]]) (.int 0) = some (txD []) := rfl
        refine fin dg g1 g2 _ (k + 1 + 1 + 1 + 1 + 1) v3 v4 hg1 hl1 hg2 hl2 ?_
        unfold F__law_base_g
        rw [fncS_e (j := 2) (m := 4) (n := 9) (ds := [nD p, .lst (ns.map .str), stD L k, nD d]) rfl (by omega)]
        simp -implicitDefEqProofs (disch := first | omega | (simp only [List.length_map, List.length_cons, List.length_nil, List.length_append, List.length_range, List.length_replicate]; omega)) only [sq_e, sqK_nx, sqK_ret, sqK_bk, sqK_ct, skip_e, setE_e, newE_e, rt_e, brk_e, cnt_e, ifS_e, ifK_t, ifK_f, ifX_t, ifX_f, ifT_t, ifT_f, fncK_ret, fncK_nx, ctK_nx, ctK_ct, ctK_ret, lcK_e, lstK_e, tupK_e, tupK_f, tupK_cat, ftupD_lst, ftupE_e, lenD_f, getD_f, addD_ff, blK_e, ovK_e, vaK_e, ife_e, var_e, ovar_e, cst_e, op1_e, op2_e, op3_e, aN_e, aC_e, tupE_e, lstE_e, cal_e, f1_e, cmp_e, flip_e, neg_e, chn_e, boo_e, tes_e, ff_e, tt_e, andT_e, orT_e, notT_e, fX_e, tX_e, andV_e, orV_e, notV_e, isN_e, yes_e, asg_e, gD_n, gD_t, gDs_n, gDs_c, frz_e, mov_e, movO_e, forE_e, iLst_e, iTp_e, iRng_e, one1_c, two2_c, iZp_e, lcE_e, lc2E_e, wip_n, wip_c, noOwn_n, noOwn_c, noO_no, noO_val, fnc_e, ini_e, met_e, fld_e, slE_e, prK_e, prt_e, prN_e, dic1_e, appK_e, app_e, extK_e, ext_e, stK_e, drpA_e, drpK_e, addD_int, addD_tup, addD_lst, subD_int, mulD_l, mulD_r, modD_int, divD_int, intD_int, intD_bl, ltD_int, leD_int, eqD_int, eqD_bl, lenD_lst, lenD_tup, lenD_scr, tupD_lst, listD_lst, listD_tup, revL_lst, isBool_bl, max2_int, isBD_bl, revT_tup, iEnum_e, iItm_e, iSq_e, isC_i, isLst_l, addI_int, subI_int, iZm_e, seqK_t, seqK_l, dcE_e, getD_t, getD_s, rngL_n, rngL_i, rngL_2, sumL_ints, sumT_tup, sumT_lst, allL_bls, anyL_bls, lcT_t, lcT_f, set_0, set_s, szL_le, szL_lt, Option.bind_some, Option.map_some, List.map_cons, List.map_nil, List.length_cons, List.length_nil, List.length_map, List.length_range, List.getElem?_cons_zero, List.getElem?_cons_succ, List.getElem?_map, List.replicate_succ, List.replicate_zero, List.cons_append, List.nil_append, if_true, if_false, ite_true, ite_false, Bool.and_true, Bool.true_and, Bool.and_self, and_true, true_and, and_self, decide_true, decide_false, Bool.not_true, Bool.not_false, eq_self, Int.toNat_natCast, Int.toNat_zero, Nat.reduceAdd, Nat.reduceSub, Nat.reduceLeDiff, Nat.reduceMul, Nat.reduceEqDiff, Int.reduceToNat, Nat.zero_add, Nat.reduceLT, Int.reduceLT, Int.reduceLE, Int.reduceEq, Int.reduceNe, Int.reduceMul, Int.reduceAdd, Int.reducePow, Bool.false_eq_true, reduceCtorEq, not_true_eq_false, not_false_eq_true, ne_eq, Option.getD_some, if_pos, List.length_append, List.length_replicate, msI, maI, msT, maT, msP, maR, e0, e00, List.set, List.getD, setEe_e, eop2_e, puE_e, eCal_e, slfK_e, retK_e, t1, c2', t2, v1, andVE_e, c20', andVK_t, booE_e, cmpE_e, t3, c0', bE_e, gg, v2, a0, s1, a1, s2, a2, eTup_e, eC_e, eN_e, hcst, rtS_e, fnS_ret]
    · have c20' : ((v : Int) < 20) ↔ False := iff_false_intro (by omega)
      obtain ⟨g1, s1, hg1, hl1⟩ := lgap_eq (L := L) (k := k + 1 + 1) hL
      obtain ⟨g2, s2, hg2, hl2⟩ := lgap_eq (L := L) (k := k + 1 + 1 + 1) hL
      have hdl := v3.2.2
      have a0 : addD (txD []) (txD dg) = some (txD dg) := addT (a := []) (b := dg) (by simp; omega)
      have a1 := addT (a := g1) (b := dg) (by omega)
      have a2 := addT (a := g1 ++ dg) (b := g2) (by simp; omega)
      have gg : getD (.lst [txD [], txD [48, 48]]) (.int 0) = some (txD []) := rfl
      refine fin dg g1 g2 _ (k + 1 + 1 + 1 + 1) v3 v4 hg1 hl1 hg2 hl2 ?_
      unfold F__law_base_g
      rw [fncS_e (j := 2) (m := 4) (n := 9) (ds := [nD p, .lst (ns.map .str), stD L k, nD d]) rfl (by omega)]
      simp -implicitDefEqProofs (disch := first | omega | (simp only [List.length_map, List.length_cons, List.length_nil, List.length_append, List.length_range, List.length_replicate]; omega)) only [sq_e, sqK_nx, sqK_ret, sqK_bk, sqK_ct, skip_e, setE_e, newE_e, rt_e, brk_e, cnt_e, ifS_e, ifK_t, ifK_f, ifX_t, ifX_f, ifT_t, ifT_f, fncK_ret, fncK_nx, ctK_nx, ctK_ct, ctK_ret, lcK_e, lstK_e, tupK_e, tupK_f, tupK_cat, ftupD_lst, ftupE_e, lenD_f, getD_f, addD_ff, blK_e, ovK_e, vaK_e, ife_e, var_e, ovar_e, cst_e, op1_e, op2_e, op3_e, aN_e, aC_e, tupE_e, lstE_e, cal_e, f1_e, cmp_e, flip_e, neg_e, chn_e, boo_e, tes_e, ff_e, tt_e, andT_e, orT_e, notT_e, fX_e, tX_e, andV_e, orV_e, notV_e, isN_e, yes_e, asg_e, gD_n, gD_t, gDs_n, gDs_c, frz_e, mov_e, movO_e, forE_e, iLst_e, iTp_e, iRng_e, one1_c, two2_c, iZp_e, lcE_e, lc2E_e, wip_n, wip_c, noOwn_n, noOwn_c, noO_no, noO_val, fnc_e, ini_e, met_e, fld_e, slE_e, prK_e, prt_e, prN_e, dic1_e, appK_e, app_e, extK_e, ext_e, stK_e, drpA_e, drpK_e, addD_int, addD_tup, addD_lst, subD_int, mulD_l, mulD_r, modD_int, divD_int, intD_int, intD_bl, ltD_int, leD_int, eqD_int, eqD_bl, lenD_lst, lenD_tup, lenD_scr, tupD_lst, listD_lst, listD_tup, revL_lst, isBool_bl, max2_int, isBD_bl, revT_tup, iEnum_e, iItm_e, iSq_e, isC_i, isLst_l, addI_int, subI_int, iZm_e, seqK_t, seqK_l, dcE_e, getD_t, getD_s, rngL_n, rngL_i, rngL_2, sumL_ints, sumT_tup, sumT_lst, allL_bls, anyL_bls, lcT_t, lcT_f, set_0, set_s, szL_le, szL_lt, Option.bind_some, Option.map_some, List.map_cons, List.map_nil, List.length_cons, List.length_nil, List.length_map, List.length_range, List.getElem?_cons_zero, List.getElem?_cons_succ, List.getElem?_map, List.replicate_succ, List.replicate_zero, List.cons_append, List.nil_append, if_true, if_false, ite_true, ite_false, Bool.and_true, Bool.true_and, Bool.and_self, and_true, true_and, and_self, decide_true, decide_false, Bool.not_true, Bool.not_false, eq_self, Int.toNat_natCast, Int.toNat_zero, Nat.reduceAdd, Nat.reduceSub, Nat.reduceLeDiff, Nat.reduceMul, Nat.reduceEqDiff, Int.reduceToNat, Nat.zero_add, Nat.reduceLT, Int.reduceLT, Int.reduceLE, Int.reduceEq, Int.reduceNe, Int.reduceMul, Int.reduceAdd, Int.reducePow, Bool.false_eq_true, reduceCtorEq, not_true_eq_false, not_false_eq_true, ne_eq, Option.getD_some, if_pos, List.length_append, List.length_replicate, msI, maI, msT, maT, msP, maR, e0, e00, List.set, List.getD, setEe_e, eop2_e, puE_e, eCal_e, slfK_e, retK_e, t1, c2', t2, v1, andVE_e, c20', andVK_f, bE_e, gg, v2, a0, s1, a1, s2, a2, eTup_e, eC_e, eN_e, hcst, rtS_e, fnS_ret]
  · have c2' : r < 2 ↔ False := iff_false_intro c2
    by_cases c4 : r < 4 ∨ d = 0
    · have c4' : ((r < 4) ∨ ((d : Int) = 0)) ↔ True := iff_true_intro (by omega)
      obtain ⟨r2, t2, hr2, hr2'⟩ := ltake_eq (L := L) (k := k + 1) (m := (ns.length : Int)) hL (by omega)
      obtain ⟨i, rfl⟩ := Int.eq_ofNat_of_zero_le hr2
      have hi : i < ns.length := by omega
      have hi2 : i < ws.length := by rw [hws, List.length_map] at hi; exact hi
      have hwi : ws[i] ∈ ws := List.getElem_mem hi2
      have hni : ns[i]? = some (⟨ws[i].toArray⟩ : Str) := by rw [hws, List.getElem?_map, List.getElem?_eq_getElem hi2]; rfl
      have hmem : (⟨ws[i].toArray⟩ : Str) ∈ ns := List.mem_of_getElem? hni
      have hix := idx_nodup hnd hni
      have hgn : getD (.lst (ns.map .str)) (nD i) = some (txD ws[i]) := by
        rw [getD_l (by omega)]
        simp [hni]
        rfl
      have hwo := hw _ hwi
      generalize ws[i] = w at hwi hni hmem hix hgn hwo
      have hunk := lunknown_eq (n := ns.length) (by omega) i
      obtain ⟨g1, s1, hg1, hl1⟩ := lgap_eq (L := L) (k := k + 1 + 1) hL
      obtain ⟨g2, s2, hg2, hl2⟩ := lgap_eq (L := L) (k := k + 1 + 1 + 1) hL
      have hwl := hwo.2.2.2
      have a1 := addT (a := g1) (b := w) (by omega)
      have a2 := addT (a := g1 ++ w) (b := g2) (by simp; omega)
      refine ⟨g1 ++ w ++ g2, [(unit ns.length i, 1)], pT [(unit ns.length i, 1)], k + 1 + 1 + 1 + 1, ?_, rfl, ?_, ⟨?_, fun fu _ => ?_⟩, ?_, ?_⟩
      · unfold F__law_base_g
        rw [fncS_e (j := 2) (m := 4) (n := 9) (ds := [nD p, .lst (ns.map .str), stD L k, nD d]) rfl (by omega)]
        by_cases c5 : r < 4
        · have c5' : r < 4 ↔ True := iff_true_intro c5
          simp -implicitDefEqProofs (disch := first | omega | (simp only [List.length_map, List.length_cons, List.length_nil, List.length_append, List.length_range, List.length_replicate]; omega)) only [sq_e, sqK_nx, sqK_ret, sqK_bk, sqK_ct, skip_e, setE_e, newE_e, rt_e, brk_e, cnt_e, ifS_e, ifK_t, ifK_f, ifX_t, ifX_f, ifT_t, ifT_f, fncK_ret, fncK_nx, ctK_nx, ctK_ct, ctK_ret, lcK_e, lstK_e, tupK_e, tupK_f, tupK_cat, ftupD_lst, ftupE_e, lenD_f, getD_f, addD_ff, blK_e, ovK_e, vaK_e, ife_e, var_e, ovar_e, cst_e, op1_e, op2_e, op3_e, aN_e, aC_e, tupE_e, lstE_e, cal_e, f1_e, cmp_e, flip_e, neg_e, chn_e, boo_e, tes_e, ff_e, tt_e, andT_e, orT_e, notT_e, fX_e, tX_e, andV_e, orV_e, notV_e, isN_e, yes_e, asg_e, gD_n, gD_t, gDs_n, gDs_c, frz_e, mov_e, movO_e, forE_e, iLst_e, iTp_e, iRng_e, one1_c, two2_c, iZp_e, lcE_e, lc2E_e, wip_n, wip_c, noOwn_n, noOwn_c, noO_no, noO_val, fnc_e, ini_e, met_e, fld_e, slE_e, prK_e, prt_e, prN_e, dic1_e, appK_e, app_e, extK_e, ext_e, stK_e, drpA_e, drpK_e, addD_int, addD_tup, addD_lst, subD_int, mulD_l, mulD_r, modD_int, divD_int, intD_int, intD_bl, ltD_int, leD_int, eqD_int, eqD_bl, lenD_lst, lenD_tup, lenD_scr, tupD_lst, listD_lst, listD_tup, revL_lst, isBool_bl, max2_int, isBD_bl, revT_tup, iEnum_e, iItm_e, iSq_e, isC_i, isLst_l, addI_int, subI_int, iZm_e, seqK_t, seqK_l, dcE_e, getD_t, getD_s, rngL_n, rngL_i, rngL_2, sumL_ints, sumT_tup, sumT_lst, allL_bls, anyL_bls, lcT_t, lcT_f, set_0, set_s, szL_le, szL_lt, Option.bind_some, Option.map_some, List.map_cons, List.map_nil, List.length_cons, List.length_nil, List.length_map, List.length_range, List.getElem?_cons_zero, List.getElem?_cons_succ, List.getElem?_map, List.replicate_succ, List.replicate_zero, List.cons_append, List.nil_append, if_true, if_false, ite_true, ite_false, Bool.and_true, Bool.true_and, Bool.and_self, and_true, true_and, and_self, decide_true, decide_false, Bool.not_true, Bool.not_false, eq_self, Int.toNat_natCast, Int.toNat_zero, Nat.reduceAdd, Nat.reduceSub, Nat.reduceLeDiff, Nat.reduceMul, Nat.reduceEqDiff, Int.reduceToNat, Nat.zero_add, Nat.reduceLT, Int.reduceLT, Int.reduceLE, Int.reduceEq, Int.reduceNe, Int.reduceMul, Int.reduceAdd, Int.reducePow, Bool.false_eq_true, reduceCtorEq, not_true_eq_false, not_false_eq_true, ne_eq, Option.getD_some, if_pos, List.length_append, List.length_replicate, msI, maI, msT, maT, msP, maR, List.set, List.getD, setEe_e, eop2_e, puE_e, eCal_e, slfK_e, retK_e, t1, c2', c5', t2, hgn, s1, a1, s2, a2, eTup_e, eC_e, eN_e, hunk, rtS_e, fnS_ret]
        · have c5' : r < 4 ↔ False := iff_false_intro c5
          have c6' : ((d : Int) = 0) ↔ True := iff_true_intro (by omega)
          simp -implicitDefEqProofs (disch := first | omega | (simp only [List.length_map, List.length_cons, List.length_nil, List.length_append, List.length_range, List.length_replicate]; omega)) only [sq_e, sqK_nx, sqK_ret, sqK_bk, sqK_ct, skip_e, setE_e, newE_e, rt_e, brk_e, cnt_e, ifS_e, ifK_t, ifK_f, ifX_t, ifX_f, ifT_t, ifT_f, fncK_ret, fncK_nx, ctK_nx, ctK_ct, ctK_ret, lcK_e, lstK_e, tupK_e, tupK_f, tupK_cat, ftupD_lst, ftupE_e, lenD_f, getD_f, addD_ff, blK_e, ovK_e, vaK_e, ife_e, var_e, ovar_e, cst_e, op1_e, op2_e, op3_e, aN_e, aC_e, tupE_e, lstE_e, cal_e, f1_e, cmp_e, flip_e, neg_e, chn_e, boo_e, tes_e, ff_e, tt_e, andT_e, orT_e, notT_e, fX_e, tX_e, andV_e, orV_e, notV_e, isN_e, yes_e, asg_e, gD_n, gD_t, gDs_n, gDs_c, frz_e, mov_e, movO_e, forE_e, iLst_e, iTp_e, iRng_e, one1_c, two2_c, iZp_e, lcE_e, lc2E_e, wip_n, wip_c, noOwn_n, noOwn_c, noO_no, noO_val, fnc_e, ini_e, met_e, fld_e, slE_e, prK_e, prt_e, prN_e, dic1_e, appK_e, app_e, extK_e, ext_e, stK_e, drpA_e, drpK_e, addD_int, addD_tup, addD_lst, subD_int, mulD_l, mulD_r, modD_int, divD_int, intD_int, intD_bl, ltD_int, leD_int, eqD_int, eqD_bl, lenD_lst, lenD_tup, lenD_scr, tupD_lst, listD_lst, listD_tup, revL_lst, isBool_bl, max2_int, isBD_bl, revT_tup, iEnum_e, iItm_e, iSq_e, isC_i, isLst_l, addI_int, subI_int, iZm_e, seqK_t, seqK_l, dcE_e, getD_t, getD_s, rngL_n, rngL_i, rngL_2, sumL_ints, sumT_tup, sumT_lst, allL_bls, anyL_bls, lcT_t, lcT_f, set_0, set_s, szL_le, szL_lt, Option.bind_some, Option.map_some, List.map_cons, List.map_nil, List.length_cons, List.length_nil, List.length_map, List.length_range, List.getElem?_cons_zero, List.getElem?_cons_succ, List.getElem?_map, List.replicate_succ, List.replicate_zero, List.cons_append, List.nil_append, if_true, if_false, ite_true, ite_false, Bool.and_true, Bool.true_and, Bool.and_self, and_true, true_and, and_self, decide_true, decide_false, Bool.not_true, Bool.not_false, eq_self, Int.toNat_natCast, Int.toNat_zero, Nat.reduceAdd, Nat.reduceSub, Nat.reduceLeDiff, Nat.reduceMul, Nat.reduceEqDiff, Int.reduceToNat, Nat.zero_add, Nat.reduceLT, Int.reduceLT, Int.reduceLE, Int.reduceEq, Int.reduceNe, Int.reduceMul, Int.reduceAdd, Int.reducePow, Bool.false_eq_true, reduceCtorEq, not_true_eq_false, not_false_eq_true, ne_eq, Option.getD_some, if_pos, List.length_append, List.length_replicate, msI, maI, msT, maT, msP, maR, List.set, List.getD, setEe_e, eop2_e, puE_e, eCal_e, slfK_e, retK_e, t1, c2', c5', c6', t2, hgn, s1, a1, s2, a2, eTup_e, eC_e, eN_e, hunk, rtS_e, fnS_ret]
      · rw [← unk_eq (p := p) hp.1]; exact unk_can hp.1
      · exact (hd_base hg1 hwo.1 (nm_hd hwo).1 (nm_hd hwo).2).app _
      · have := rd_nam (t := F_Reader_terms_rec fu) (K := []) hP (by omega) hp.1 hg1 hwo hmem hg2
        rw [hix, unk_eq hp.1] at this
        exact this
      · simp only [List.length_append]
        omega
      · intro c hc
        simp only [List.mem_append] at hc
        rcases hc with (hc | hc) | hc
        · exact gap_sm hg1 c hc
        · exact ld_ch c (hwo.2.2.1 c hc)
        · exact gap_sm hg2 c hc
    · obtain ⟨d', rfl⟩ : ∃ d', d = d' + 1 := ⟨d - 1, by omega⟩
      have c5' : r < 4 ↔ False := iff_false_intro (by omega)
      have c6' : (((d' + 1 : Nat) : Int) = 0) ↔ False := iff_false_intro (by omega)
      have hsub : ((d' + 1 : Nat) : Int) - 1 = (d' : Int) := by push_cast; omega
      obtain ⟨s, f, dL, k', hX, hdL, hf, hR, hsl, hsc⟩ := ht d' rfl (k + 1)
      obtain ⟨g1, s1, hg1, hl1⟩ := lgap_eq (L := L) (k := k') hL
      obtain ⟨g2, s2, hg2, hl2⟩ := lgap_eq (L := L) (k := k' + 1) hL
      have a0 := addT (a := g1) (b := [40]) (by simp; omega)
      have a1 := addT (a := g1 ++ [40]) (b := s) (by simp; omega)
      have a2 := addT (a := g1 ++ [40] ++ s) (b := [41]) (by simp; omega)
      have a3 := addT (a := g1 ++ [40] ++ s ++ [41]) (b := g2) (by simp; omega)
      have et : g1 ++ 40 :: (s ++ 41 :: g2) = g1 ++ [40] ++ s ++ [41] ++ g2 := by simp
      simp only [List.append_assoc, List.cons_append, List.nil_append] at a0 a1 a2 a3
      refine ⟨g1 ++ 40 :: (s ++ 41 :: g2), f, dL, k' + 1 + 1, ?_, hdL, hf, ⟨?_, fun fu hfu => ?_⟩, ?_, ?_⟩
      · unfold F__law_base_g
        rw [fncS_e (j := 2) (m := 4) (n := 9) (ds := [nD p, .lst (ns.map .str), stD L k, nD (d' + 1)]) rfl (by omega)]
        simp_arith [e40, e41, List.set, List.getD, setEe_e, asgEe_e, eop2_e, puE_e, eCal_e, slfK_e, retK_e, t1, c2', c5', c6', hsub, hX, s1, a0, a1, a2, s2, a3, eTup_e, eC_e, eN_e, rtS_e, fnS_ret, List.append_assoc, List.cons_append, List.nil_append]
      · exact hd_base hg1 (by simp) (by show (40 : Nat) ≠ 32; omega) (by show (40 : Nat) ≠ 45; omega)
      · exact rd_par hg1 hg2 (hR fu hfu) (by decide)
      · simp only [List.length_append, List.length_cons]
        omega
      · intro c hc
        simp only [List.mem_append, List.mem_cons] at hc
        rcases hc with hc | rfl | hc | rfl | hc
        · exact gap_sm hg1 c hc
        · decide
        · exact hsc c hc
        · decide
        · exact gap_sm hg2 c hc
end

theorem exp_menu {p : Nat} (h : PP p) {r : Int} (hr : 0 ≤ r ∧ r < 8) : ∃ (v : Nat) (dg : List Nat), getD (.lst [.int 0, .int 1, .int 2, .int 3, nD p, .int ((p : Int) + 1), .int (1000000000 - 1), .int 6]) (.int r) = some (nD v) ∧ strI (nD v) = some (txD dg) ∧ Dg dg ∧ digV dg = v ∧ (v < 9 → dg.length ≤ 1) := by
  have hr : r = 0 ∨ r = 1 ∨ r = 2 ∨ r = 3 ∨ r = 4 ∨ r = 5 ∨ r = 6 ∨ r = 7 := by omega
  rcases hr with rfl | rfl | rfl | rfl | rfl | rfl | rfl | rfl
  · exact ⟨0, [48], rfl, rfl, ⟨by simp, by decide, by simp⟩, rfl, by simp⟩
  · exact ⟨1, [49], rfl, rfl, ⟨by simp, by decide, by simp⟩, rfl, by simp⟩
  · exact ⟨2, [50], rfl, rfl, ⟨by simp, by decide, by simp⟩, rfl, by simp⟩
  · exact ⟨3, [51], rfl, rfl, ⟨by simp, by decide, by simp⟩, rfl, by simp⟩
  · rcases h with rfl | rfl | rfl | rfl
    · exact ⟨2, [50], rfl, rfl, ⟨by simp, by decide, by simp⟩, rfl, by simp⟩
    · exact ⟨3, [51], rfl, rfl, ⟨by simp, by decide, by simp⟩, rfl, by simp⟩
    · exact ⟨5, [53], rfl, rfl, ⟨by simp, by decide, by simp⟩, rfl, by simp⟩
    · exact ⟨7, [55], rfl, rfl, ⟨by simp, by decide, by simp⟩, rfl, by simp⟩
  · rcases h with rfl | rfl | rfl | rfl
    · exact ⟨3, [51], rfl, rfl, ⟨by simp, by decide, by simp⟩, rfl, by simp⟩
    · exact ⟨4, [52], rfl, rfl, ⟨by simp, by decide, by simp⟩, rfl, by simp⟩
    · exact ⟨6, [54], rfl, rfl, ⟨by simp, by decide, by simp⟩, rfl, by simp⟩
    · exact ⟨8, [56], rfl, rfl, ⟨by simp, by decide, by simp⟩, rfl, by simp⟩
  · exact ⟨999999999, [57, 57, 57, 57, 57, 57, 57, 57, 57], rfl, rfl, ⟨by simp, by decide, by simp⟩, rfl, by simp⟩
  · exact ⟨6, [54], rfl, rfl, ⟨by simp, by decide, by simp⟩, rfl, by simp⟩
section
variable {p : Nat} {ns : List Str} {L : List Int} {k : Nat} {t : Fn}
theorem lfactor_eq (h : PP p) (hns : 1 ≤ ns.length ∧ ns.length ≤ 10) (hpt : (pts p ns.length).length ≤ 100) (hL : 0 < L.length ∧ L.length ≤ 1000) {d M : Nat} (hM : M ≤ 90000)
    (hb : ∀ k, LRes p ns L M (BaseR p ns d) (F__law_base_g t [nD p, .lst (ns.map .str), stD L k, nD d])) : LRes p ns L (M + 20) (FacR p ns d) (F__law_factor_g t [nD p, .lst (ns.map .str), stD L k, nD d]) := by
  have hp := h.bd
  have e0 : (D.str "") = txD [] := rfl
  have e1 : (D.str "0") = txD [48] := rfl
  have e94 : (D.str "^") = txD [94] := rfl
  have hpw : powD (.int 10) (.int 9) = some (.int 1000000000) := rfl
  obtain ⟨s, f, dL, k1, hX, hdL, hf, hR, hsl, hsc⟩ := hb k
  have hfl := hf.len
  obtain ⟨r, t1, hr0, hr3⟩ := ltake_eq (L := L) (k := k1) (m := 3) hL (by omega)
  by_cases c0 : r = 0
  · have c0' : r = 0 ↔ True := iff_true_intro c0
    obtain ⟨r2, t2, hr2, hr2'⟩ := ltake_eq (L := L) (k := k1 + 1) (m := 8) hL (by omega)
    obtain ⟨v, dg, v1, v2, v3, v4, v5⟩ := exp_menu h ⟨hr2, hr2'⟩
    obtain ⟨g1, s1, hg1, hl1⟩ := lgap_eq (L := L) (k := k1 + 1 + 1) hL
    have hlb := less_bd hp.1 (e := (v : Int)) (by omega)
    obtain ⟨d', hr1, hd'⟩ := lraised_d h hdL hns hf.pol (by omega) hpt (e := less p (v : Int)) ⟨hlb.1, by omega⟩
    have hpr := raisedP_eq h (ns := ns) rfl (d := pD f) (f := f) rfl hns hf.pol (by omega) hpt (e := (v : Int)) (by omega)
    have hfew := few_eq hp.1 (e := (v : Int)) (by omega)
    have fin : ∀ (ds g : List Nat) (X : Option D) (k' : Nat), Dg ds → digV ds = v → Gap g → g.length ≤ 2 → X = some (.tup [.tup [txD (s ++ 94 :: (g1 ++ ds ++ g)), d'], stD L k']) → LRes p ns L (M + 20) (FacR p ns d) X := fun ds g X k' hd hv hg hgl hX => by
      refine ⟨_, _, _, k', hX, hd', powP_can hp.1 hf.pol.pw _, ⟨hR.1.app _, fun fu hfu => ?_⟩, ?_, ?_⟩
      · exact rd_fac1 (hR.2 fu hfu) hg1 hd hg (by rw [hv]; exact hpr)
      · simp only [List.length_append, List.length_cons]
        have := hd.2.2
        omega
      · intro c hc
        simp only [List.mem_append, List.mem_cons] at hc
        rcases hc with hc | rfl | (hc | hc) | hc
        · exact hsc c hc
        · decide
        · exact gap_sm hg1 c hc
        · exact ld_ch c (List.mem_append_right _ (hd.2.1 c hc))
        · exact gap_sm hg c hc
    have a0 := addT (a := s) (b := [94]) (by simp; omega)
    have a1 := addT (a := s ++ [94]) (b := g1) (by simp; omega)
    have few : (ife (cmp eqD (var 6) (cst (.int 0))) (cst (.int 0)) (op2 addD (op2 modD (cal (f1 intD) (aC (op2 subD (var 6) (cst (.int 1))) aN)) (op2 subD (var 0) (cst (.int 1)))) (cst (.int 1)))) = fun e => (ife (cmp eqD (var 6) (cst (.int 0))) (cst (.int 0)) (op2 addD (op2 modD (cal (f1 intD) (aC (op2 subD (var 6) (cst (.int 1))) aN)) (op2 subD (var 0) (cst (.int 1)))) (cst (.int 1)))) e := rfl
    have hfw : ∀ s2 s3 s4 s5 s7, (ife (cmp eqD (var 6) (cst (.int 0))) (cst (.int 0)) (op2 addD (op2 modD (cal (f1 intD) (aC (op2 subD (var 6) (cst (.int 1))) aN)) (op2 subD (var 0) (cst (.int 1)))) (cst (.int 1)))) [.val (nD p), .val (.lst (ns.map .str)), s2, s3, s4, s5, .val (nD v), s7] = some (.int (less p (v : Int))) := fun s2 s3 s4 s5 s7 => by
      rw [← hfew]
      by_cases hv0 : (v : Int) = 0
      · have hv0' : (v : Int) = 0 ↔ True := iff_true_intro hv0
        rw [if_pos hv0]
        simp_arith [hv0']
      · have hv0' : (v : Int) = 0 ↔ False := iff_false_intro hv0
        rw [if_neg hv0]
        simp_arith [hv0']
    by_cases c9 : v < 9
    · have c9' : ((v : Int) < 9) ↔ True := iff_true_intro (by omega)
      obtain ⟨r3, t3, hr3, hr3'⟩ := ltake_eq (L := L) (k := k1 + 1 + 1 + 1) (m := 4) hL (by omega)
      obtain ⟨g2, s2, hg2, hl2⟩ := lgap_eq (L := L) (k := k1 + 1 + 1 + 1 + 1) hL
      have hdl := v5 c9
      by_cases cz : r3 = 0
      · have cz' : r3 = 0 ↔ True := iff_true_intro cz
        have gg : getD (.lst [txD [], txD [48]]) (.int 1) = some (txD [48]) := rfl
        have a2 := addT (a := s ++ [94] ++ g1) (b := [48]) (by simp; omega)
        have a3 := addT (a := s ++ [94] ++ g1 ++ [48]) (b := dg) (by simp; omega)
        have a4 := addT (a := s ++ [94] ++ g1 ++ [48] ++ dg) (b := g2) (by simp; omega)
        simp only [List.append_assoc, List.cons_append, List.nil_append] at a0 a1 a2 a3 a4
        refine fin (48 :: dg) g2 _ (k1 + 1 + 1 + 1 + 1 + 1) ⟨by simp, fun c hc => ?_, by simp; omega⟩ (by rw [digV_0]; exact v4) hg2 hl2 ?_
        · rcases List.mem_cons.mp hc with rfl | hc
          · decide
          · exact v3.2.1 c hc
        · unfold F__law_factor_g
          rw [fncS_e (j := 2) (m := 4) (n := 8) (ds := [nD p, .lst (ns.map .str), stD L k, nD d]) rfl (by omega)]
          simp -implicitDefEqProofs (disch := first | omega | (simp only [List.length_map, List.length_cons, List.length_nil, List.length_append, List.length_range, List.length_replicate]; omega)) only [sq_e, sqK_nx, sqK_ret, sqK_bk, sqK_ct, skip_e, setE_e, newE_e, rt_e, brk_e, cnt_e, ifS_e, ifK_t, ifK_f, ifX_t, ifX_f, ifT_t, ifT_f, fncK_ret, fncK_nx, ctK_nx, ctK_ct, ctK_ret, lcK_e, lstK_e, tupK_e, tupK_f, tupK_cat, ftupD_lst, ftupE_e, lenD_f, getD_f, addD_ff, blK_e, ovK_e, vaK_e, var_e, ovar_e, cst_e, op1_e, op2_e, op3_e, aN_e, aC_e, tupE_e, lstE_e, cal_e, f1_e, cmp_e, flip_e, neg_e, chn_e, boo_e, tes_e, ff_e, tt_e, andT_e, orT_e, notT_e, fX_e, tX_e, andV_e, orV_e, notV_e, isN_e, yes_e, asg_e, gD_n, gD_t, gDs_n, gDs_c, frz_e, mov_e, movO_e, forE_e, iLst_e, iTp_e, iRng_e, one1_c, two2_c, iZp_e, lcE_e, lc2E_e, wip_n, wip_c, noOwn_n, noOwn_c, noO_no, noO_val, fnc_e, ini_e, met_e, fld_e, slE_e, prK_e, prt_e, prN_e, dic1_e, appK_e, app_e, extK_e, ext_e, stK_e, drpA_e, drpK_e, addD_int, addD_tup, addD_lst, subD_int, mulD_l, mulD_r, modD_int, divD_int, intD_int, intD_bl, ltD_int, leD_int, eqD_int, eqD_bl, lenD_lst, lenD_tup, lenD_scr, tupD_lst, listD_lst, listD_tup, revL_lst, isBool_bl, max2_int, isBD_bl, revT_tup, iEnum_e, iItm_e, iSq_e, isC_i, isLst_l, addI_int, subI_int, iZm_e, seqK_t, seqK_l, dcE_e, getD_t, getD_s, rngL_n, rngL_i, rngL_2, sumL_ints, sumT_tup, sumT_lst, allL_bls, anyL_bls, lcT_t, lcT_f, set_0, set_s, szL_le, szL_lt, Option.bind_some, Option.map_some, List.map_cons, List.map_nil, List.length_cons, List.length_nil, List.length_map, List.length_range, List.getElem?_cons_zero, List.getElem?_cons_succ, List.getElem?_map, List.replicate_succ, List.replicate_zero, List.cons_append, List.nil_append, if_true, if_false, ite_true, ite_false, Bool.and_true, Bool.true_and, Bool.and_self, and_true, true_and, and_self, decide_true, decide_false, Bool.not_true, Bool.not_false, eq_self, Int.toNat_natCast, Int.toNat_zero, Nat.reduceAdd, Nat.reduceSub, Nat.reduceLeDiff, Nat.reduceMul, Nat.reduceEqDiff, Int.reduceToNat, Nat.zero_add, Nat.reduceLT, Int.reduceLT, Int.reduceLE, Int.reduceEq, Int.reduceNe, Int.reduceMul, Int.reduceAdd, Int.reducePow, Bool.false_eq_true, reduceCtorEq, not_true_eq_false, not_false_eq_true, ne_eq, Option.getD_some, if_pos, List.length_append, List.length_replicate, msI, maI, msT, maT, msP, maR, e0, e1, e94, hpw, List.set, List.getD, setEe_e, asgEe_e, ifE_e, eop2_e, puE_e, eCal_e, slfK_e, retK_e, hX, t1, c0', t2, v1, s1, a0, a1, andVE_e, c9', andVK_t, booE_e, cmpE_e, t3, cz', bE_e, gg, a2, v2, a3, hfw, hr1, s2, a4, eTup_e, eC_e, eN_e, rtS_e, fnS_ret, List.append_assoc, List.cons_append, List.nil_append]
      · have cz' : r3 = 0 ↔ False := iff_false_intro cz
        have gg : getD (.lst [txD [], txD [48]]) (.int 0) = some (txD []) := rfl
        have a2 := addT (a := s ++ [94] ++ g1) (b := []) (by simp; omega)
        have a3 := addT (a := s ++ [94] ++ g1) (b := dg) (by simp; omega)
        have a4 := addT (a := s ++ [94] ++ g1 ++ dg) (b := g2) (by simp; omega)
        simp only [List.append_assoc, List.cons_append, List.nil_append, List.append_nil] at a0 a1 a2 a3 a4
        refine fin dg g2 _ (k1 + 1 + 1 + 1 + 1 + 1) v3 v4 hg2 hl2 ?_
        unfold F__law_factor_g
        rw [fncS_e (j := 2) (m := 4) (n := 8) (ds := [nD p, .lst (ns.map .str), stD L k, nD d]) rfl (by omega)]
        simp -implicitDefEqProofs (disch := first | omega | (simp only [List.length_map, List.length_cons, List.length_nil, List.length_append, List.length_range, List.length_replicate]; omega)) only [sq_e, sqK_nx, sqK_ret, sqK_bk, sqK_ct, skip_e, setE_e, newE_e, rt_e, brk_e, cnt_e, ifS_e, ifK_t, ifK_f, ifX_t, ifX_f, ifT_t, ifT_f, fncK_ret, fncK_nx, ctK_nx, ctK_ct, ctK_ret, lcK_e, lstK_e, tupK_e, tupK_f, tupK_cat, ftupD_lst, ftupE_e, lenD_f, getD_f, addD_ff, blK_e, ovK_e, vaK_e, var_e, ovar_e, cst_e, op1_e, op2_e, op3_e, aN_e, aC_e, tupE_e, lstE_e, cal_e, f1_e, cmp_e, flip_e, neg_e, chn_e, boo_e, tes_e, ff_e, tt_e, andT_e, orT_e, notT_e, fX_e, tX_e, andV_e, orV_e, notV_e, isN_e, yes_e, asg_e, gD_n, gD_t, gDs_n, gDs_c, frz_e, mov_e, movO_e, forE_e, iLst_e, iTp_e, iRng_e, one1_c, two2_c, iZp_e, lcE_e, lc2E_e, wip_n, wip_c, noOwn_n, noOwn_c, noO_no, noO_val, fnc_e, ini_e, met_e, fld_e, slE_e, prK_e, prt_e, prN_e, dic1_e, appK_e, app_e, extK_e, ext_e, stK_e, drpA_e, drpK_e, addD_int, addD_tup, addD_lst, subD_int, mulD_l, mulD_r, modD_int, divD_int, intD_int, intD_bl, ltD_int, leD_int, eqD_int, eqD_bl, lenD_lst, lenD_tup, lenD_scr, tupD_lst, listD_lst, listD_tup, revL_lst, isBool_bl, max2_int, isBD_bl, revT_tup, iEnum_e, iItm_e, iSq_e, isC_i, isLst_l, addI_int, subI_int, iZm_e, seqK_t, seqK_l, dcE_e, getD_t, getD_s, rngL_n, rngL_i, rngL_2, sumL_ints, sumT_tup, sumT_lst, allL_bls, anyL_bls, lcT_t, lcT_f, set_0, set_s, szL_le, szL_lt, Option.bind_some, Option.map_some, List.map_cons, List.map_nil, List.length_cons, List.length_nil, List.length_map, List.length_range, List.getElem?_cons_zero, List.getElem?_cons_succ, List.getElem?_map, List.replicate_succ, List.replicate_zero, List.cons_append, List.nil_append, if_true, if_false, ite_true, ite_false, Bool.and_true, Bool.true_and, Bool.and_self, and_true, true_and, and_self, decide_true, decide_false, Bool.not_true, Bool.not_false, eq_self, Int.toNat_natCast, Int.toNat_zero, Nat.reduceAdd, Nat.reduceSub, Nat.reduceLeDiff, Nat.reduceMul, Nat.reduceEqDiff, Int.reduceToNat, Nat.zero_add, Nat.reduceLT, Int.reduceLT, Int.reduceLE, Int.reduceEq, Int.reduceNe, Int.reduceMul, Int.reduceAdd, Int.reducePow, Bool.false_eq_true, reduceCtorEq, not_true_eq_false, not_false_eq_true, ne_eq, Option.getD_some, if_pos, List.length_append, List.length_replicate, msI, maI, msT, maT, msP, maR, e0, e1, e94, hpw, List.set, List.getD, setEe_e, asgEe_e, ifE_e, eop2_e, puE_e, eCal_e, slfK_e, retK_e, hX, t1, c0', t2, v1, s1, a0, a1, andVE_e, c9', andVK_t, booE_e, cmpE_e, t3, cz', bE_e, gg, a2, v2, a3, hfw, hr1, s2, a4, eTup_e, eC_e, eN_e, rtS_e, fnS_ret, List.append_assoc, List.cons_append, List.nil_append]
    · have c9' : ((v : Int) < 9) ↔ False := iff_false_intro (by omega)
      obtain ⟨g2, s2, hg2, hl2⟩ := lgap_eq (L := L) (k := k1 + 1 + 1 + 1) hL
      have hdl := v3.2.2
      have gg : getD (.lst [txD [], txD [48]]) (.int 0) = some (txD []) := rfl
      have a2 := addT (a := s ++ [94] ++ g1) (b := []) (by simp; omega)
      have a3 := addT (a := s ++ [94] ++ g1) (b := dg) (by simp; omega)
      have a4 := addT (a := s ++ [94] ++ g1 ++ dg) (b := g2) (by simp; omega)
      simp only [List.append_assoc, List.cons_append, List.nil_append, List.append_nil] at a0 a1 a2 a3 a4
      refine fin dg g2 _ (k1 + 1 + 1 + 1 + 1) v3 v4 hg2 hl2 ?_
      unfold F__law_factor_g
      rw [fncS_e (j := 2) (m := 4) (n := 8) (ds := [nD p, .lst (ns.map .str), stD L k, nD d]) rfl (by omega)]
      simp -implicitDefEqProofs (disch := first | omega | (simp only [List.length_map, List.length_cons, List.length_nil, List.length_append, List.length_range, List.length_replicate]; omega)) only [sq_e, sqK_nx, sqK_ret, sqK_bk, sqK_ct, skip_e, setE_e, newE_e, rt_e, brk_e, cnt_e, ifS_e, ifK_t, ifK_f, ifX_t, ifX_f, ifT_t, ifT_f, fncK_ret, fncK_nx, ctK_nx, ctK_ct, ctK_ret, lcK_e, lstK_e, tupK_e, tupK_f, tupK_cat, ftupD_lst, ftupE_e, lenD_f, getD_f, addD_ff, blK_e, ovK_e, vaK_e, var_e, ovar_e, cst_e, op1_e, op2_e, op3_e, aN_e, aC_e, tupE_e, lstE_e, cal_e, f1_e, cmp_e, flip_e, neg_e, chn_e, boo_e, tes_e, ff_e, tt_e, andT_e, orT_e, notT_e, fX_e, tX_e, andV_e, orV_e, notV_e, isN_e, yes_e, asg_e, gD_n, gD_t, gDs_n, gDs_c, frz_e, mov_e, movO_e, forE_e, iLst_e, iTp_e, iRng_e, one1_c, two2_c, iZp_e, lcE_e, lc2E_e, wip_n, wip_c, noOwn_n, noOwn_c, noO_no, noO_val, fnc_e, ini_e, met_e, fld_e, slE_e, prK_e, prt_e, prN_e, dic1_e, appK_e, app_e, extK_e, ext_e, stK_e, drpA_e, drpK_e, addD_int, addD_tup, addD_lst, subD_int, mulD_l, mulD_r, modD_int, divD_int, intD_int, intD_bl, ltD_int, leD_int, eqD_int, eqD_bl, lenD_lst, lenD_tup, lenD_scr, tupD_lst, listD_lst, listD_tup, revL_lst, isBool_bl, max2_int, isBD_bl, revT_tup, iEnum_e, iItm_e, iSq_e, isC_i, isLst_l, addI_int, subI_int, iZm_e, seqK_t, seqK_l, dcE_e, getD_t, getD_s, rngL_n, rngL_i, rngL_2, sumL_ints, sumT_tup, sumT_lst, allL_bls, anyL_bls, lcT_t, lcT_f, set_0, set_s, szL_le, szL_lt, Option.bind_some, Option.map_some, List.map_cons, List.map_nil, List.length_cons, List.length_nil, List.length_map, List.length_range, List.getElem?_cons_zero, List.getElem?_cons_succ, List.getElem?_map, List.replicate_succ, List.replicate_zero, List.cons_append, List.nil_append, if_true, if_false, ite_true, ite_false, Bool.and_true, Bool.true_and, Bool.and_self, and_true, true_and, and_self, decide_true, decide_false, Bool.not_true, Bool.not_false, eq_self, Int.toNat_natCast, Int.toNat_zero, Nat.reduceAdd, Nat.reduceSub, Nat.reduceLeDiff, Nat.reduceMul, Nat.reduceEqDiff, Int.reduceToNat, Nat.zero_add, Nat.reduceLT, Int.reduceLT, Int.reduceLE, Int.reduceEq, Int.reduceNe, Int.reduceMul, Int.reduceAdd, Int.reducePow, Bool.false_eq_true, reduceCtorEq, not_true_eq_false, not_false_eq_true, ne_eq, Option.getD_some, if_pos, List.length_append, List.length_replicate, msI, maI, msT, maT, msP, maR, e0, e1, e94, hpw, List.set, List.getD, setEe_e, asgEe_e, ifE_e, eop2_e, puE_e, eCal_e, slfK_e, retK_e, hX, t1, c0', t2, v1, s1, a0, a1, andVE_e, c9', andVK_f, booE_e, cmpE_e, bE_e, gg, a2, v2, a3, hfw, hr1, s2, a4, eTup_e, eC_e, eN_e, rtS_e, fnS_ret, List.append_assoc, List.cons_append, List.nil_append]
  · have c0' : r = 0 ↔ False := iff_false_intro c0
    obtain ⟨g, s1, hg, hl1⟩ := lgap_eq (L := L) (k := k1 + 1) hL
    have a0 := addT (a := s) (b := g) (by omega)
    refine ⟨s ++ g, f, dL, k1 + 1 + 1, ?_, hdL, hf, ⟨hR.1.app _, fun fu hfu => rd_fac0 (hR.2 fu hfu) hg⟩, by simp; omega, fun c hc => ?_⟩
    · unfold F__law_factor_g
      rw [fncS_e (j := 2) (m := 4) (n := 8) (ds := [nD p, .lst (ns.map .str), stD L k, nD d]) rfl (by omega)]
      simp_arith [e0, e1, e94, hpw, List.set, List.getD, setEe_e, asgEe_e, ifE_e, eop2_e, puE_e, eCal_e, slfK_e, retK_e, hX, t1, c0', booE_e, cmpE_e, s1, a0, eTup_e, eC_e, eN_e, rtS_e, fnS_ret]
    · rcases List.mem_append.mp hc with hc | hc
      · exact hsc c hc
      · exact gap_sm hg c hc
end

theorem prT_snoc (l : List (List Nat × D)) (q : List Nat × D) : prT (l ++ [q]) = prT l ++ 42 :: q.1 := by simp [prT]
section
variable {p : Nat} {ns : List Str} {L : List Int} {k : Nat} {t : Fn}
theorem cnt_menu {r : Int} (hr : 0 ≤ r ∧ r < 4) : ∃ c : Nat, c ≤ 2 ∧ getD (.lst [.int 0, .int 0, .int 1, .int 2]) (.int r) = some (nD c) := by
  have hr : r = 0 ∨ r = 1 ∨ r = 2 ∨ r = 3 := by omega
  rcases hr with rfl | rfl | rfl | rfl
  · exact ⟨0, by omega, rfl⟩
  · exact ⟨0, by omega, rfl⟩
  · exact ⟨1, by omega, rfl⟩
  · exact ⟨2, by omega, rfl⟩
theorem lproduct_eq (h : PP p) (hns : 1 ≤ ns.length ∧ ns.length ≤ 10) (hpt : (pts p ns.length).length ≤ 100) (hL : 0 < L.length ∧ L.length ≤ 1000) {d M : Nat} (hM : M ≤ 30000)
    (hb : ∀ k, LRes p ns L M (FacR p ns d) (F__law_factor_g t [nD p, .lst (ns.map .str), stD L k, nD d])) : LRes p ns L (3 * M + 10) (PrR p ns d) (F__law_product_g t [nD p, .lst (ns.map .str), stD L k, nD d]) := by
  have hp := h.bd
  have e42 : (D.str "*") = txD [42] := rfl
  obtain ⟨s, f, dL, k1, hX, hdL, hf, hR, hsl, hsc⟩ := hb k
  obtain ⟨r, t1, hr0, hr4⟩ := ltake_eq (L := L) (k := k1) (m := 4) hL (by omega)
  obtain ⟨c, hc2, hcm⟩ := cnt_menu ⟨hr0, hr4⟩
  have hrg : rngL [nD c] = some ((List.range c).map fun (k : Nat) => D.int (k : Int)) := rngL_n (n := c) (by omega)
  unfold F__law_product_g
  rw [fncS_e (j := 2) (m := 4) (n := 9) (ds := [nD p, .lst (ns.map .str), stD L k, nD d]) rfl (by omega)]
  simp -implicitDefEqProofs (disch := first | omega | (simp only [List.length_map, List.length_cons, List.length_nil, List.length_append, List.length_range, List.length_replicate]; omega)) only [sq_e, sqK_nx, sqK_ret, sqK_bk, sqK_ct, skip_e, setE_e, newE_e, rt_e, brk_e, cnt_e, ifS_e, ifK_t, ifK_f, ifX_t, ifX_f, ifT_t, ifT_f, fncK_ret, fncK_nx, ctK_nx, ctK_ct, ctK_ret, lcK_e, lstK_e, tupK_e, tupK_f, tupK_cat, ftupD_lst, ftupE_e, lenD_f, getD_f, addD_ff, blK_e, ovK_e, vaK_e, ife_e, var_e, ovar_e, cst_e, op1_e, op2_e, op3_e, aN_e, aC_e, tupE_e, lstE_e, cal_e, f1_e, cmp_e, flip_e, neg_e, chn_e, boo_e, tes_e, ff_e, tt_e, andT_e, orT_e, notT_e, fX_e, tX_e, andV_e, orV_e, notV_e, isN_e, yes_e, asg_e, gD_n, gD_t, gDs_n, gDs_c, frz_e, mov_e, movO_e, forE_e, iLst_e, iTp_e, iRng_e, one1_c, two2_c, iZp_e, lcE_e, lc2E_e, wip_n, wip_c, noOwn_n, noOwn_c, noO_no, noO_val, fnc_e, ini_e, met_e, fld_e, slE_e, prK_e, prt_e, prN_e, dic1_e, appK_e, app_e, extK_e, ext_e, stK_e, drpA_e, drpK_e, addD_int, addD_tup, addD_lst, subD_int, mulD_l, mulD_r, modD_int, divD_int, intD_int, intD_bl, ltD_int, leD_int, eqD_int, eqD_bl, lenD_lst, lenD_tup, lenD_scr, tupD_lst, listD_lst, listD_tup, revL_lst, isBool_bl, max2_int, isBD_bl, revT_tup, iEnum_e, iItm_e, iSq_e, isC_i, isLst_l, addI_int, subI_int, iZm_e, seqK_t, seqK_l, dcE_e, getD_t, getD_s, rngL_2, sumL_ints, sumT_tup, sumT_lst, allL_bls, anyL_bls, lcT_t, lcT_f, set_0, set_s, szL_le, szL_lt, Option.bind_some, Option.map_some, List.map_cons, List.map_nil, List.length_cons, List.length_nil, List.length_map, List.length_range, List.getElem?_cons_zero, List.getElem?_cons_succ, List.getElem?_map, List.replicate_succ, List.replicate_zero, List.cons_append, List.nil_append, if_true, if_false, ite_true, ite_false, Bool.and_true, Bool.true_and, Bool.and_self, and_true, true_and, and_self, decide_true, decide_false, Bool.not_true, Bool.not_false, eq_self, Int.toNat_natCast, Int.toNat_zero, Nat.reduceAdd, Nat.reduceSub, Nat.reduceLeDiff, Nat.reduceMul, Nat.reduceEqDiff, Int.reduceToNat, Nat.zero_add, Nat.reduceLT, Int.reduceLT, Int.reduceLE, Int.reduceEq, Int.reduceNe, Int.reduceMul, Int.reduceAdd, Int.reducePow, Bool.false_eq_true, reduceCtorEq, not_true_eq_false, not_false_eq_true, ne_eq, Option.getD_some, if_pos, List.length_append, List.length_replicate, msI, maI, msT, maT, msP, maR, e42, List.set, List.getD, asgEe_e, forEe_e, iRngE_e, eop2_e, puE_e, eCal_e, slfK_e, retK_e, hX, t1, hcm, hrg]
  generalize hlp : loop _ _ _ _ = o
  obtain ⟨e, rfl, lst, f2, d2, k2, s4, s7, s8, rfl, i1, i2, i3, i4, i5, i6, i7⟩ := loop_o hlp (fun i env => ∃ (lst : List (List Nat × D)) (f2 : Poly) (d2 : D) (k2 : Nat) (s4 s7 s8 : DSlot), env = [.val (nD p), .val (.lst (ns.map .str)), .slf (stD L k2), .val (nD d), s4, .val (txD (s ++ prT lst)), .val d2, s7, s8] ∧
      tupK d2 = some (f2.map rowD) ∧ Can p ns.length f2 ∧ lst.length = i ∧ (∀ q ∈ lst, ∀ fu, d ≤ fu → Rd (spcD p ns) (F_Reader_factor_g (F_Reader_terms_rec fu)) q.1 q.2 [94]) ∧ PrC (spcD p ns) (pD f) lst (pD f2) ∧ (prT lst).length ≤ i * (M + 1) ∧ ∀ x ∈ prT lst, Ch x)
    ⟨[], f, dL, _, _, _, _, by rw [show prT [] = [] from rfl, List.append_nil], hdL, hf, rfl, by simp, .nil, by simp [prT], by simp [prT]⟩ (by
      rintro i x e hx ⟨lst, f2, d2, k2, s4, s7, s8, rfl, i1, i2, i3, i4, i5, i6, i7⟩
      have hi : i < c := by
        have := (List.getElem?_eq_some_iff.mp hx).1
        simpa using this
      have hi2 : i * (M + 1) ≤ 1 * (M + 1) := Nat.mul_le_mul (by omega) (Nat.le_refl _)
      obtain ⟨s', f', dL', k', hX', hdL', hf', hR', hsl', hsc'⟩ := hb k2
      have h1 := hf'.len
      have h2 := i2.len
      have ht := ltimes_dd h i1 hdL' hns i2.pol hf'.pol (by omega) (by omega)
      have hpt2 := timesI_eq h (ns := ns) (f := f2) (g := f') (d1 := pD f2) (d2 := pD f') rfl rfl hns i2.pol hf'.pol (by omega) (by omega)
      have a0 := addT (a := s ++ prT lst) (b := [42]) (by simp; omega)
      have a1 := addT (a := s ++ prT lst ++ [42]) (b := s') (by simp; omega)
      simp only [List.append_assoc, List.cons_append, List.nil_append] at a0 a1
      refine stp (by simp_arith [asgEe_e, eCal_e, slfK_e, retK_e, List.set, hX', e42, a0, a1, ht, List.append_assoc, List.cons_append, List.nil_append]; rfl) ?_
      refine ⟨lst ++ [(s', pD f')], _, _, k', _, _, _, by rw [prT_snoc], rfl, times_can hp.1 i2.pol.pw hf'.pol.pw, by simp [i3], ?_, i5.snoc hpt2, ?_, ?_⟩
      · intro q hq fu hfu
        rcases List.mem_append.mp hq with hq | hq
        · exact i4 q hq fu hfu
        · rw [List.mem_singleton.mp hq]; exact hR'.2 fu hfu
      · have hm : (i + 1) * (M + 1) = i * (M + 1) + (M + 1) := by rw [Nat.add_mul, Nat.one_mul]
        rw [prT_snoc, List.length_append, List.length_cons, hm]
        exact Nat.add_le_add i6 (Nat.succ_le_succ hsl')
      · rw [prT_snoc]
        intro x hx
        simp only [List.mem_append, List.mem_cons] at hx
        rcases hx with hx | rfl | hx
        · exact i7 x hx
        · decide
        · exact hsc' x hx)
  have hlen : (List.range c).length = c := List.length_range
  rw [hlen] at i3 i6
  have hcm2 : c * (M + 1) ≤ 2 * (M + 1) := Nat.mul_le_mul hc2 (Nat.le_refl _)
  refine ⟨s ++ prT lst, f2, d2, k2, ?_, i1, i2, ⟨hR.1.app _, fun fu hfu => rd_prod (hR.2 fu hfu) (fun q hq => i4 q hq fu hfu) i5 (by omega)⟩, by simp; omega, fun x hx => ?_⟩
  · simp_arith [rtS_e, slfK_e, puE_e, fnS_ret, List.set, List.getD]
  · rcases List.mem_append.mp hx with hx | hx
    · exact hsc x hx
    · exact i7 x hx
end

theorem smT_snoc (l : List SmI) (q : SmI) : smT (l ++ [q]) = smT l ++ (q.g ++ sgN q.neg :: q.s) := by simp [smT]
section
variable {p : Nat} {ns : List Str} {L : List Int} {k : Nat} {t : Fn}
theorem add0 {n : Nat} (h : PP p) {g : Poly} (hg : Can p n g) : mk p (addM ([] ++ g)) = g :=
  uniq h (add_can (by have := h.bd; omega) (by simp) hg.pol.pw) hg fun x _ => by
    have := ws_add (W := fun k => mon k x) (p := p) (f := []) (g := g)
    simpa [ev, PV.ws] using this
theorem scal1 {n : Nat} (h : PP p) {g : Poly} (hg : Can p n g) : mk p (scal g 1) = g := by
  have hp := h.bd
  refine uniq h (scl_can (by omega) hg) hg fun x _ => ?_
  rw [← lscal_eq (by omega) hg]
  have := ws_red2 (W := fun k => mon k x) (p := p) (c := 1) (f := g)
  rw [ws_scl] at this
  simpa [ev] using this
theorem pw_key {n : Nat} (hn : 1 ≤ n) {f : Poly} (hf : ∀ r ∈ f, Pw p n r.1) : ∀ r ∈ f, r.1 ≠ [] := fun r hr z => by
  have := (hf r hr).1
  rw [z] at this
  simp at this
  omega
theorem lsum_eq (h : PP p) (hns : 1 ≤ ns.length ∧ ns.length ≤ 10) (hpt : (pts p ns.length).length ≤ 100) (hL : 0 < L.length ∧ L.length ≤ 1000) {d M fu0 : Nat} (hM : M ≤ 20000)
    (hb : ∀ k, LRes p ns L M (PrR p ns d) (F__law_product_g (F__law_sum_rec fu0) [nD p, .lst (ns.map .str), stD L k, nD d])) : ∃ s f k', F__law_sum_rec (fu0 + 1) [nD p, .lst (ns.map .str), stD L k, nD d] = some (.tup [.tup [txD s, pD f], stD L k']) ∧ Can p ns.length f ∧ SumR p ns d s f ∧ s.length ≤ 3 * M + 20 ∧ ∀ c ∈ s, Ch c := by
  have hp := h.bd
  have e0 : (D.str "") = txD [] := rfl
  have e45 : (D.str "-") = txD [45] := rfl
  have e43 : (D.str "+") = txD [43] := rfl
  obtain ⟨r, t1, hr0, hr4⟩ := ltake_eq (L := L) (k := k) (m := 4) hL (by omega)
  obtain ⟨c, hc2, hcm⟩ := cnt_menu ⟨hr0, hr4⟩
  have hrg : rngL [.int (1 + (c : Int))] = some ((List.range (1 + c)).map fun (k : Nat) => D.int (k : Int)) := by
    rw [show (1 + (c : Int)) = ((1 + c : Nat) : Int) from by push_cast; rfl]
    exact rngL_n (n := 1 + c) (by omega)
  rw [F__law_sum_rec, fncS_e (j := 2) (m := 4) (n := 11) (ds := [nD p, .lst (ns.map .str), stD L k, nD d]) rfl (by omega)]
  simp -implicitDefEqProofs (disch := first | omega | (simp only [List.length_map, List.length_cons, List.length_nil, List.length_append, List.length_range, List.length_replicate]; omega)) only [sq_e, sqK_nx, sqK_ret, sqK_bk, sqK_ct, skip_e, setE_e, newE_e, rt_e, brk_e, cnt_e, ifS_e, ifK_t, ifK_f, ifX_t, ifX_f, ifT_t, ifT_f, fncK_ret, fncK_nx, ctK_nx, ctK_ct, ctK_ret, lcK_e, lstK_e, tupK_e, tupK_f, tupK_cat, ftupD_lst, ftupE_e, lenD_f, getD_f, addD_ff, blK_e, ovK_e, vaK_e, ife_e, var_e, ovar_e, cst_e, op1_e, op2_e, op3_e, aN_e, aC_e, tupE_e, lstE_e, cal_e, f1_e, cmp_e, flip_e, neg_e, chn_e, boo_e, tes_e, ff_e, tt_e, andT_e, orT_e, notT_e, fX_e, tX_e, andV_e, orV_e, notV_e, isN_e, yes_e, asg_e, gD_n, gD_t, gDs_n, gDs_c, frz_e, mov_e, movO_e, forE_e, iLst_e, iTp_e, iRng_e, one1_c, two2_c, iZp_e, lcE_e, lc2E_e, wip_n, wip_c, noOwn_n, noOwn_c, noO_no, noO_val, fnc_e, ini_e, met_e, fld_e, slE_e, prK_e, prt_e, prN_e, dic1_e, appK_e, app_e, extK_e, ext_e, stK_e, drpA_e, drpK_e, addD_int, addD_tup, addD_lst, subD_int, mulD_l, mulD_r, modD_int, divD_int, intD_int, intD_bl, ltD_int, leD_int, eqD_int, eqD_bl, lenD_lst, lenD_tup, lenD_scr, tupD_lst, listD_lst, listD_tup, revL_lst, isBool_bl, max2_int, isBD_bl, revT_tup, iEnum_e, iItm_e, iSq_e, isC_i, isLst_l, addI_int, subI_int, iZm_e, seqK_t, seqK_l, dcE_e, getD_t, getD_s, rngL_2, sumL_ints, sumT_tup, sumT_lst, allL_bls, anyL_bls, lcT_t, lcT_f, set_0, set_s, szL_le, szL_lt, Option.bind_some, Option.map_some, List.map_cons, List.map_nil, List.length_cons, List.length_nil, List.length_map, List.length_range, List.getElem?_cons_zero, List.getElem?_cons_succ, List.getElem?_map, List.replicate_succ, List.replicate_zero, List.cons_append, List.nil_append, if_true, if_false, ite_true, ite_false, Bool.and_true, Bool.true_and, Bool.and_self, and_true, true_and, and_self, decide_true, decide_false, Bool.not_true, Bool.not_false, eq_self, Int.toNat_natCast, Int.toNat_zero, Nat.reduceAdd, Nat.reduceSub, Nat.reduceLeDiff, Nat.reduceMul, Nat.reduceEqDiff, Int.reduceToNat, Nat.zero_add, Nat.reduceLT, Int.reduceLT, Int.reduceLE, Int.reduceEq, Int.reduceNe, Int.reduceMul, Int.reduceAdd, Int.reducePow, Bool.false_eq_true, reduceCtorEq, not_true_eq_false, not_false_eq_true, ne_eq, Option.getD_some, if_pos, List.length_append, List.length_replicate, msI, maI, msT, maT, msP, maR, e0, List.set, List.getD, forEe_e, iRngE_e, eop2_e, puE_e, eCal_e, slfK_e, retK_e, t1, hcm, hrg]
  generalize hlp : loop _ _ _ _ = o
  obtain ⟨e, rfl, hP⟩ := loop_o hlp (fun i env => (i = 0 ∧ ∃ k2 s7 s8 s9 s10, env = [.val (nD p), .val (.lst (ns.map .str)), .slf (stD L k2), .val (nD d), .val (nD ns.length), .val (txD []), .val (.tup []), s7, s8, s9, s10]) ∨
      (1 ≤ i ∧ ∃ (g0 : List Nat) (neg : Bool) (s0 : List Nat) (f0 d0 : Poly) (lst : List SmI) (f : Poly) (k2 : Nat) (s7 s8 s9 s10 : DSlot), env = [.val (nD p), .val (.lst (ns.map .str)), .slf (stD L k2), .val (nD d), .val (nD ns.length), .val (txD (g0 ++ ((if neg = true then 45 :: s0 else s0) ++ smT lst))), .val (pD f), s7, s8, s9, s10] ∧
        Gap g0 ∧ (∀ fu, d ≤ fu → Rd (spcD p ns) (F_Reader_product_g (F_Reader_terms_rec fu)) s0 (pD f0) [94, 42]) ∧ (neg = false → Hd s0) ∧ (if neg = true then F_scaled [spcD p ns, pD f0, .int ((p : Int) - 1)] = some (pD d0) else pD d0 = pD f0) ∧
        (∀ q ∈ lst, ∀ fu, d ≤ fu → q.ok (spcD p ns) (F_Reader_terms_rec fu)) ∧ SmC (spcD p ns) (pD d0) lst (pD f) ∧ Can p ns.length f ∧ lst.length < i ∧ (g0 ++ ((if neg = true then 45 :: s0 else s0) ++ smT lst)).length ≤ i * (M + 3) ∧ ∀ x ∈ g0 ++ ((if neg = true then 45 :: s0 else s0) ++ smT lst), Ch x))
    (.inl ⟨rfl, _, _, _, _, _, rfl⟩) (by
      rintro i x e hx hP
      have hi : i < 1 + c := by
        have := (List.getElem?_eq_some_iff.mp hx).1
        simpa using this
      have hxi : x = i := by
        rw [List.getElem?_range hi] at hx
        exact (Option.some.inj hx).symm
      subst hxi
      rcases hP with ⟨rfl, k2, s7, s8, s9, s10, rfl⟩ | ⟨hi1, g0, neg, s0, f0, d0, lst, f, k2, s7, s8, s9, s10, rfl, q1, q2, q3, q4, q5, q6, q7, q8, q9, q10⟩
      · obtain ⟨s', f', dL', k', hX', hdL', hf', hR', hsl', hsc'⟩ := hb k2
        obtain ⟨r2, t2, hr2, hr2'⟩ := ltake_eq (L := L) (k := k') (m := 4) hL (by omega)
        obtain ⟨g, sg, hg, hgl⟩ := lgap_eq (L := L) (k := k' + 1) hL
        have h1 := hf'.len
        have a0 : addD (txD []) (txD g) = some (txD g) := addT (a := []) (b := g) (by simp; omega)
        have hk0 : ((0 : Int) < ((0 : Nat) : Int)) ↔ False := iff_false_intro (by omega)
        by_cases c0 : r2 = 0
        · have c0' : r2 = 0 ↔ True := iff_true_intro c0
          have gg : getD (.lst [txD [], txD [45], txD [43], txD [45]]) (.int 1) = some (txD [45]) := rfl
          have a1 := addT (a := g) (b := [45]) (by simp; omega)
          have a2 := addT (a := g ++ [45]) (b := s') (by simp; omega)
          simp only [List.append_assoc, List.cons_append, List.nil_append] at a0 a1 a2
          have qe : eqD (txD [45]) (txD [45]) = some true := by rw [tx_eq (by simp) (by simp)]; rfl
          have g2 : getD (.lst [.int 1, .int ((p : Int) - 1)]) (.int 1) = some (.int ((p : Int) - 1)) := rfl
          have hsc := lscaled_d (p := p) (by omega) hdL' hf' (by omega) ((p : Int) - 1)
          have hpsc := scaled_eq (p := p) (ns := ns) (by omega) (by omega) hf' (by omega) ((p : Int) - 1)
          have hcan := scl_can (p := p) (c := (p : Int) - 1) (by omega) hf'
          have hl := hcan.len
          have hpl := lplus_d (p := p) (by omega) (f := []) (g := mk p (scal f' ((p : Int) - 1))) (d1 := .tup []) (d2 := pD (mk p (scal f' ((p : Int) - 1)))) (d := pD (mk p (scal f' ((p : Int) - 1)))) (by
            show (if _ then _ else none) = _
            rw [if_pos (by unfold szL; simp; omega)]; rfl) rfl (by simpa using pw_key hns.1 hcan.pol.pw) (by simp; omega)
          rw [add0 h hcan] at hpl
          refine stp (by simp -implicitDefEqProofs (disch := first | omega | (simp only [List.length_map, List.length_cons, List.length_nil, List.length_append, List.length_range, List.length_replicate]; omega)) only [sq_e, sqK_nx, sqK_ret, sqK_bk, sqK_ct, skip_e, setE_e, newE_e, rt_e, brk_e, cnt_e, ifS_e, ifK_t, ifK_f, ifX_t, ifX_f, ifT_t, ifT_f, fncK_ret, fncK_nx, ctK_nx, ctK_ct, ctK_ret, lcK_e, lstK_e, tupK_e, tupK_f, tupK_cat, ftupD_lst, ftupE_e, lenD_f, getD_f, addD_ff, blK_e, ovK_e, vaK_e, ife_e, var_e, ovar_e, cst_e, op1_e, op2_e, op3_e, aN_e, aC_e, tupE_e, lstE_e, cal_e, f1_e, cmp_e, flip_e, neg_e, chn_e, boo_e, tes_e, ff_e, tt_e, andT_e, orT_e, notT_e, fX_e, tX_e, andV_e, orV_e, notV_e, isN_e, yes_e, asg_e, gD_n, gD_t, gDs_n, gDs_c, frz_e, mov_e, movO_e, forE_e, iLst_e, iTp_e, iRng_e, one1_c, two2_c, iZp_e, lcE_e, lc2E_e, wip_n, wip_c, noOwn_n, noOwn_c, noO_no, noO_val, fnc_e, ini_e, met_e, fld_e, slE_e, prK_e, prt_e, prN_e, dic1_e, appK_e, app_e, extK_e, ext_e, stK_e, drpA_e, drpK_e, addD_int, addD_tup, addD_lst, subD_int, mulD_l, mulD_r, modD_int, divD_int, intD_int, intD_bl, ltD_int, leD_int, eqD_int, eqD_bl, lenD_lst, lenD_tup, lenD_scr, tupD_lst, listD_lst, listD_tup, revL_lst, isBool_bl, max2_int, isBD_bl, revT_tup, iEnum_e, iItm_e, iSq_e, isC_i, isLst_l, addI_int, subI_int, iZm_e, seqK_t, seqK_l, dcE_e, getD_t, getD_s, rngL_n, rngL_i, rngL_2, sumL_ints, sumT_tup, sumT_lst, allL_bls, anyL_bls, lcT_t, lcT_f, set_0, set_s, szL_le, szL_lt, Option.bind_some, Option.map_some, List.map_cons, List.map_nil, List.length_cons, List.length_nil, List.length_map, List.length_range, List.getElem?_cons_zero, List.getElem?_cons_succ, List.getElem?_map, List.replicate_succ, List.replicate_zero, List.cons_append, List.nil_append, if_true, if_false, ite_true, ite_false, Bool.and_true, Bool.true_and, Bool.and_self, and_true, true_and, and_self, decide_true, decide_false, Bool.not_true, Bool.not_false, eq_self, Int.toNat_natCast, Int.toNat_zero, Nat.reduceAdd, Nat.reduceSub, Nat.reduceLeDiff, Nat.reduceMul, Nat.reduceEqDiff, Int.reduceToNat, Nat.zero_add, Nat.reduceLT, Int.reduceLT, Int.reduceLE, Int.reduceEq, Int.reduceNe, Int.reduceMul, Int.reduceAdd, Int.reducePow, Bool.false_eq_true, reduceCtorEq, not_true_eq_false, not_false_eq_true, ne_eq, Option.getD_some, if_pos, List.length_append, List.length_replicate, msI, maI, msT, maT, msP, maR, asgEe_e, setEe_e, eop2_e, puE_e, eCal_e, slfK_e, retK_e, List.set, hX', e0, e45, e43, booE_e, cmpE_e, bE_e, hk0, t2, c0', gg, sg, a0, a1, a2, qe, g2, hsc, hpl, List.append_assoc, List.cons_append, List.nil_append]; rfl) (.inr ⟨by omega, g, true, s', f', mk p (scal f' ((p : Int) - 1)), [], mk p (scal f' ((p : Int) - 1)), _, _, _, _, _, by rw [show smT [] = [] from rfl, List.append_nil]; rfl, hg, hR'.2, by simp, hpsc, by simp, .nil, hcan, by simp, by simp [smT]; omega, ?_⟩)
          intro x hx
          simp only [if_true, smT, List.flatMap_nil, List.append_nil, List.mem_append, List.mem_cons] at hx
          rcases hx with hx | rfl | hx
          · exact gap_sm hg x hx
          · decide
          · exact hsc' x hx
        · have c0' : r2 = 0 ↔ False := iff_false_intro c0
          have gg : getD (.lst [txD [], txD [45], txD [43], txD [45]]) (.int 0) = some (txD []) := rfl
          have a1 : addD (txD g) (txD []) = some (txD g) := by have := addT (a := g) (b := []) (by simp; omega); rwa [List.append_nil] at this
          have a2 := addT (a := g) (b := s') (by omega)
          have qe : eqD (txD []) (txD [45]) = some false := by rw [tx_eq (by simp) (by simp)]; rfl
          have g2 : getD (.lst [.int 1, .int ((p : Int) - 1)]) (.int 0) = some (.int 1) := rfl
          have hsc := lscaled_d (p := p) (by omega) hdL' hf' (by omega) 1
          rw [scal1 h hf'] at hsc
          have hpl := lplus_d (p := p) (by omega) (f := []) (g := f') (d1 := .tup []) (d2 := pD f') (d := pD f') (by
            show (if _ then _ else none) = _
            rw [if_pos (by unfold szL; simp; omega)]; rfl) rfl (by simpa using pw_key hns.1 hf'.pol.pw) (by simp; omega)
          rw [add0 h hf'] at hpl
          refine stp (by simp -implicitDefEqProofs (disch := first | omega | (simp only [List.length_map, List.length_cons, List.length_nil, List.length_append, List.length_range, List.length_replicate]; omega)) only [sq_e, sqK_nx, sqK_ret, sqK_bk, sqK_ct, skip_e, setE_e, newE_e, rt_e, brk_e, cnt_e, ifS_e, ifK_t, ifK_f, ifX_t, ifX_f, ifT_t, ifT_f, fncK_ret, fncK_nx, ctK_nx, ctK_ct, ctK_ret, lcK_e, lstK_e, tupK_e, tupK_f, tupK_cat, ftupD_lst, ftupE_e, lenD_f, getD_f, addD_ff, blK_e, ovK_e, vaK_e, ife_e, var_e, ovar_e, cst_e, op1_e, op2_e, op3_e, aN_e, aC_e, tupE_e, lstE_e, cal_e, f1_e, cmp_e, flip_e, neg_e, chn_e, boo_e, tes_e, ff_e, tt_e, andT_e, orT_e, notT_e, fX_e, tX_e, andV_e, orV_e, notV_e, isN_e, yes_e, asg_e, gD_n, gD_t, gDs_n, gDs_c, frz_e, mov_e, movO_e, forE_e, iLst_e, iTp_e, iRng_e, one1_c, two2_c, iZp_e, lcE_e, lc2E_e, wip_n, wip_c, noOwn_n, noOwn_c, noO_no, noO_val, fnc_e, ini_e, met_e, fld_e, slE_e, prK_e, prt_e, prN_e, dic1_e, appK_e, app_e, extK_e, ext_e, stK_e, drpA_e, drpK_e, addD_int, addD_tup, addD_lst, subD_int, mulD_l, mulD_r, modD_int, divD_int, intD_int, intD_bl, ltD_int, leD_int, eqD_int, eqD_bl, lenD_lst, lenD_tup, lenD_scr, tupD_lst, listD_lst, listD_tup, revL_lst, isBool_bl, max2_int, isBD_bl, revT_tup, iEnum_e, iItm_e, iSq_e, isC_i, isLst_l, addI_int, subI_int, iZm_e, seqK_t, seqK_l, dcE_e, getD_t, getD_s, rngL_n, rngL_i, rngL_2, sumL_ints, sumT_tup, sumT_lst, allL_bls, anyL_bls, lcT_t, lcT_f, set_0, set_s, szL_le, szL_lt, Option.bind_some, Option.map_some, List.map_cons, List.map_nil, List.length_cons, List.length_nil, List.length_map, List.length_range, List.getElem?_cons_zero, List.getElem?_cons_succ, List.getElem?_map, List.replicate_succ, List.replicate_zero, List.cons_append, List.nil_append, if_true, if_false, ite_true, ite_false, Bool.and_true, Bool.true_and, Bool.and_self, and_true, true_and, and_self, decide_true, decide_false, Bool.not_true, Bool.not_false, eq_self, Int.toNat_natCast, Int.toNat_zero, Nat.reduceAdd, Nat.reduceSub, Nat.reduceLeDiff, Nat.reduceMul, Nat.reduceEqDiff, Int.reduceToNat, Nat.zero_add, Nat.reduceLT, Int.reduceLT, Int.reduceLE, Int.reduceEq, Int.reduceNe, Int.reduceMul, Int.reduceAdd, Int.reducePow, Bool.false_eq_true, reduceCtorEq, not_true_eq_false, not_false_eq_true, ne_eq, Option.getD_some, if_pos, List.length_append, List.length_replicate, msI, maI, msT, maT, msP, maR, asgEe_e, setEe_e, eop2_e, puE_e, eCal_e, slfK_e, retK_e, List.set, hX', e0, e45, e43, booE_e, cmpE_e, bE_e, hk0, t2, c0', gg, sg, a0, a1, a2, qe, g2, hsc, hpl]; rfl) (.inr ⟨by omega, g, false, s', f', f', [], f', _, _, _, _, _, by rw [show smT [] = [] from rfl, List.append_nil]; rfl, hg, hR'.2, fun _ => hR'.1, rfl, by simp, .nil, hf', by simp, by simp [smT]; omega, ?_⟩)
          intro x hx
          simp only [smT, List.flatMap_nil, List.append_nil, Bool.false_eq_true, if_false, List.mem_append] at hx
          rcases hx with hx | hx
          · exact gap_sm hg x hx
          · exact hsc' x hx
      · obtain ⟨s', f', dL', k', hX', hdL', hf', hR', hsl', hsc'⟩ := hb k2
        obtain ⟨r2, t2, hr2, hr2'⟩ := ltake_eq (L := L) (k := k') (m := 4) hL (by omega)
        obtain ⟨g, sg, hg, hgl⟩ := lgap_eq (L := L) (k := k' + 1) hL
        have h1 := hf'.len
        have h2 := q7.len
        have hxm : x * (M + 3) ≤ 2 * (M + 3) := Nat.mul_le_mul (by omega) (Nat.le_refl _)
        have hxs : (x + 1) * (M + 3) = x * (M + 3) + (M + 3) := by rw [Nat.add_mul, Nat.one_mul]
        have hk0 : ((0 : Int) < (x : Int)) ↔ True := iff_true_intro (by omega)
        have et : ∀ (neg2 : Bool), g0 ++ ((if neg = true then 45 :: s0 else s0) ++ smT (lst ++ [⟨g, neg2, s', pD f'⟩])) = g0 ++ ((if neg = true then 45 :: s0 else s0) ++ smT lst) ++ (g ++ sgN neg2 :: s') := fun neg2 => by rw [smT_snoc]; simp [List.append_assoc]
        generalize hTx : g0 ++ ((if neg = true then 45 :: s0 else s0) ++ smT lst) = Tx at q9 q10 et ⊢
        have a0 := addT (a := Tx) (b := g) (by omega)
        have fin : ∀ (neg2 : Bool) (f2 : Poly) (X : Option DRes) (s7 s8 s9 s10 : DSlot) (kk : Nat), Can p ns.length f2 → (if neg2 = true then F_minus else F_plus) [spcD p ns, pD f, pD f'] = some (pD f2) → X = some (.nx [.val (nD p), .val (.lst (ns.map .str)), .slf (stD L kk), .val (nD d), .val (nD ns.length), .val (txD (Tx ++ (g ++ sgN neg2 :: s'))), .val (pD f2), s7, s8, s9, s10]) →
            ∃ e2, X = some (.nx e2) ∧ ((x + 1 = 0 ∧ ∃ k2 s7 s8 s9 s10, e2 = [.val (nD p), .val (.lst (ns.map .str)), .slf (stD L k2), .val (nD d), .val (nD ns.length), .val (txD []), .val (.tup []), s7, s8, s9, s10]) ∨
      (1 ≤ x + 1 ∧ ∃ (g0 : List Nat) (neg : Bool) (s0 : List Nat) (f0 d0 : Poly) (lst : List SmI) (f : Poly) (k2 : Nat) (s7 s8 s9 s10 : DSlot), e2 = [.val (nD p), .val (.lst (ns.map .str)), .slf (stD L k2), .val (nD d), .val (nD ns.length), .val (txD (g0 ++ ((if neg = true then 45 :: s0 else s0) ++ smT lst))), .val (pD f), s7, s8, s9, s10] ∧
        Gap g0 ∧ (∀ fu, d ≤ fu → Rd (spcD p ns) (F_Reader_product_g (F_Reader_terms_rec fu)) s0 (pD f0) [94, 42]) ∧ (neg = false → Hd s0) ∧ (if neg = true then F_scaled [spcD p ns, pD f0, .int ((p : Int) - 1)] = some (pD d0) else pD d0 = pD f0) ∧
        (∀ q ∈ lst, ∀ fu, d ≤ fu → q.ok (spcD p ns) (F_Reader_terms_rec fu)) ∧ SmC (spcD p ns) (pD d0) lst (pD f) ∧ Can p ns.length f ∧ lst.length < x + 1 ∧ (g0 ++ ((if neg = true then 45 :: s0 else s0) ++ smT lst)).length ≤ (x + 1) * (M + 3) ∧ ∀ x ∈ g0 ++ ((if neg = true then 45 :: s0 else s0) ++ smT lst), Ch x)) := fun neg2 f2 X s7 s8 s9 s10 kk hf2 hch hX => by
          refine ⟨_, hX, .inr ⟨by omega, g0, neg, s0, f0, d0, lst ++ [⟨g, neg2, s', pD f'⟩], f2, kk, s7, s8, s9, s10, by rw [et], q1, q2, q3, q4, ?_, q6.snoc hch, hf2, by simp; omega, ?_, ?_⟩⟩
          · intro q hq fu hfu
            rcases List.mem_append.mp hq with hq | hq
            · exact q5 q hq fu hfu
            · rw [List.mem_singleton.mp hq]
              exact ⟨hg, hR'.2 fu hfu⟩
          · rw [et, hxs]
            simp only [List.length_append, List.length_cons]
            omega
          · rw [et]
            intro y hy
            simp only [List.mem_append, List.mem_cons] at hy
            rcases hy with hy | hy | rfl | hy
            · exact q10 y hy
            · exact gap_sm hg y hy
            · unfold sgN; split <;> decide
            · exact hsc' y hy
        by_cases c0 : r2 = 0
        · have c0' : r2 = 0 ↔ True := iff_true_intro c0
          have gg : getD (.lst [txD [], txD [45], txD [43], txD [45]]) (.int 3) = some (txD [45]) := rfl
          have a1 := addT (a := Tx ++ g) (b := [45]) (by simp; omega)
          have a2 := addT (a := Tx ++ g ++ [45]) (b := s') (by simp; omega)
          simp only [List.append_assoc, List.cons_append, List.nil_append] at a0 a1 a2
          have qe : eqD (txD [45]) (txD [45]) = some true := by rw [tx_eq (by simp) (by simp)]; rfl
          have g2 : getD (.lst [.int 1, .int ((p : Int) - 1)]) (.int 1) = some (.int ((p : Int) - 1)) := rfl
          have hsc := lscaled_d (p := p) (by omega) hdL' hf' (by omega) ((p : Int) - 1)
          have hcan := scl_can (p := p) (c := (p : Int) - 1) (by omega) hf'
          have hl := hcan.len
          have hpl := lplus_g (p := p) (by omega) (f := f) (g := mk p (scal f' ((p : Int) - 1))) (fun r hr => (List.mem_append.mp hr).elim (pw_key hns.1 q7.pol.pw r) (pw_key hns.1 hcan.pol.pw r)) (by omega)
          have hmi := minus_eq (p := p) (ns := ns) (by omega) hns.1 q7 hf' (by omega) (by omega)
          exact fin true (subP p f f') _ _ _ _ _ (k' + 1 + 1) (sub_can (by omega) q7 hf') hmi (by simp -implicitDefEqProofs (disch := first | omega | (simp only [List.length_map, List.length_cons, List.length_nil, List.length_append, List.length_range, List.length_replicate]; omega)) only [sq_e, sqK_nx, sqK_ret, sqK_bk, sqK_ct, skip_e, setE_e, newE_e, rt_e, brk_e, cnt_e, ifS_e, ifK_t, ifK_f, ifX_t, ifX_f, ifT_t, ifT_f, fncK_ret, fncK_nx, ctK_nx, ctK_ct, ctK_ret, lcK_e, lstK_e, tupK_e, tupK_f, tupK_cat, ftupD_lst, ftupE_e, lenD_f, getD_f, addD_ff, blK_e, ovK_e, vaK_e, ife_e, var_e, ovar_e, cst_e, op1_e, op2_e, op3_e, aN_e, aC_e, tupE_e, lstE_e, cal_e, f1_e, cmp_e, flip_e, neg_e, chn_e, boo_e, tes_e, ff_e, tt_e, andT_e, orT_e, notT_e, fX_e, tX_e, andV_e, orV_e, notV_e, isN_e, yes_e, asg_e, gD_n, gD_t, gDs_n, gDs_c, frz_e, mov_e, movO_e, forE_e, iLst_e, iTp_e, iRng_e, one1_c, two2_c, iZp_e, lcE_e, lc2E_e, wip_n, wip_c, noOwn_n, noOwn_c, noO_no, noO_val, fnc_e, ini_e, met_e, fld_e, slE_e, prK_e, prt_e, prN_e, dic1_e, appK_e, app_e, extK_e, ext_e, stK_e, drpA_e, drpK_e, addD_int, addD_tup, addD_lst, subD_int, mulD_l, mulD_r, modD_int, divD_int, intD_int, intD_bl, ltD_int, leD_int, eqD_int, eqD_bl, lenD_lst, lenD_tup, lenD_scr, tupD_lst, listD_lst, listD_tup, revL_lst, isBool_bl, max2_int, isBD_bl, revT_tup, iEnum_e, iItm_e, iSq_e, isC_i, isLst_l, addI_int, subI_int, iZm_e, seqK_t, seqK_l, dcE_e, getD_t, getD_s, rngL_n, rngL_i, rngL_2, sumL_ints, sumT_tup, sumT_lst, allL_bls, anyL_bls, lcT_t, lcT_f, set_0, set_s, szL_le, szL_lt, Option.bind_some, Option.map_some, List.map_cons, List.map_nil, List.length_cons, List.length_nil, List.length_map, List.length_range, List.getElem?_cons_zero, List.getElem?_cons_succ, List.getElem?_map, List.replicate_succ, List.replicate_zero, List.cons_append, List.nil_append, if_true, if_false, ite_true, ite_false, Bool.and_true, Bool.true_and, Bool.and_self, and_true, true_and, and_self, decide_true, decide_false, Bool.not_true, Bool.not_false, eq_self, Int.toNat_natCast, Int.toNat_zero, Nat.reduceAdd, Nat.reduceSub, Nat.reduceLeDiff, Nat.reduceMul, Nat.reduceEqDiff, Int.reduceToNat, Nat.zero_add, Nat.reduceLT, Int.reduceLT, Int.reduceLE, Int.reduceEq, Int.reduceNe, Int.reduceMul, Int.reduceAdd, Int.reducePow, Bool.false_eq_true, reduceCtorEq, not_true_eq_false, not_false_eq_true, ne_eq, Option.getD_some, if_pos, List.length_append, List.length_replicate, msI, maI, msT, maT, msP, maR, asgEe_e, setEe_e, eop2_e, puE_e, eCal_e, slfK_e, retK_e, List.set, hX', e0, e45, e43, booE_e, cmpE_e, bE_e, hk0, t2, c0', gg, sg, a0, a1, a2, qe, g2, hsc, hpl, List.append_assoc, List.cons_append, List.nil_append]; rfl)
        · have c0' : r2 = 0 ↔ False := iff_false_intro c0
          have gg : getD (.lst [txD [], txD [45], txD [43], txD [45]]) (.int 2) = some (txD [43]) := rfl
          have a1 := addT (a := Tx ++ g) (b := [43]) (by simp; omega)
          have a2 := addT (a := Tx ++ g ++ [43]) (b := s') (by simp; omega)
          simp only [List.append_assoc, List.cons_append, List.nil_append] at a0 a1 a2
          have qe : eqD (txD [43]) (txD [45]) = some false := by rw [tx_eq (by simp) (by simp)]; rfl
          have g2 : getD (.lst [.int 1, .int ((p : Int) - 1)]) (.int 0) = some (.int 1) := rfl
          have hsc := lscaled_d (p := p) (by omega) hdL' hf' (by omega) 1
          rw [scal1 h hf'] at hsc
          have hpl := lplus_g (p := p) (by omega) (f := f) (g := f') (fun r hr => (List.mem_append.mp hr).elim (pw_key hns.1 q7.pol.pw r) (pw_key hns.1 hf'.pol.pw r)) (by omega)
          have hpp := plus_eq (p := p) (ns := ns) hp.1 hns.1 (d := pD f') q7 rfl hf'.pol.pw (by omega) (by omega)
          exact fin false _ _ _ _ _ _ (k' + 1 + 1) (add_can (by omega) q7.pol.pw hf'.pol.pw) hpp (by simp -implicitDefEqProofs (disch := first | omega | (simp only [List.length_map, List.length_cons, List.length_nil, List.length_append, List.length_range, List.length_replicate]; omega)) only [sq_e, sqK_nx, sqK_ret, sqK_bk, sqK_ct, skip_e, setE_e, newE_e, rt_e, brk_e, cnt_e, ifS_e, ifK_t, ifK_f, ifX_t, ifX_f, ifT_t, ifT_f, fncK_ret, fncK_nx, ctK_nx, ctK_ct, ctK_ret, lcK_e, lstK_e, tupK_e, tupK_f, tupK_cat, ftupD_lst, ftupE_e, lenD_f, getD_f, addD_ff, blK_e, ovK_e, vaK_e, ife_e, var_e, ovar_e, cst_e, op1_e, op2_e, op3_e, aN_e, aC_e, tupE_e, lstE_e, cal_e, f1_e, cmp_e, flip_e, neg_e, chn_e, boo_e, tes_e, ff_e, tt_e, andT_e, orT_e, notT_e, fX_e, tX_e, andV_e, orV_e, notV_e, isN_e, yes_e, asg_e, gD_n, gD_t, gDs_n, gDs_c, frz_e, mov_e, movO_e, forE_e, iLst_e, iTp_e, iRng_e, one1_c, two2_c, iZp_e, lcE_e, lc2E_e, wip_n, wip_c, noOwn_n, noOwn_c, noO_no, noO_val, fnc_e, ini_e, met_e, fld_e, slE_e, prK_e, prt_e, prN_e, dic1_e, appK_e, app_e, extK_e, ext_e, stK_e, drpA_e, drpK_e, addD_int, addD_tup, addD_lst, subD_int, mulD_l, mulD_r, modD_int, divD_int, intD_int, intD_bl, ltD_int, leD_int, eqD_int, eqD_bl, lenD_lst, lenD_tup, lenD_scr, tupD_lst, listD_lst, listD_tup, revL_lst, isBool_bl, max2_int, isBD_bl, revT_tup, iEnum_e, iItm_e, iSq_e, isC_i, isLst_l, addI_int, subI_int, iZm_e, seqK_t, seqK_l, dcE_e, getD_t, getD_s, rngL_n, rngL_i, rngL_2, sumL_ints, sumT_tup, sumT_lst, allL_bls, anyL_bls, lcT_t, lcT_f, set_0, set_s, szL_le, szL_lt, Option.bind_some, Option.map_some, List.map_cons, List.map_nil, List.length_cons, List.length_nil, List.length_map, List.length_range, List.getElem?_cons_zero, List.getElem?_cons_succ, List.getElem?_map, List.replicate_succ, List.replicate_zero, List.cons_append, List.nil_append, if_true, if_false, ite_true, ite_false, Bool.and_true, Bool.true_and, Bool.and_self, and_true, true_and, and_self, decide_true, decide_false, Bool.not_true, Bool.not_false, eq_self, Int.toNat_natCast, Int.toNat_zero, Nat.reduceAdd, Nat.reduceSub, Nat.reduceLeDiff, Nat.reduceMul, Nat.reduceEqDiff, Int.reduceToNat, Nat.zero_add, Nat.reduceLT, Int.reduceLT, Int.reduceLE, Int.reduceEq, Int.reduceNe, Int.reduceMul, Int.reduceAdd, Int.reducePow, Bool.false_eq_true, reduceCtorEq, not_true_eq_false, not_false_eq_true, ne_eq, Option.getD_some, if_pos, List.length_append, List.length_replicate, msI, maI, msT, maT, msP, maR, asgEe_e, setEe_e, eop2_e, puE_e, eCal_e, slfK_e, retK_e, List.set, hX', e0, e45, e43, booE_e, cmpE_e, bE_e, hk0, t2, c0', gg, sg, a0, a1, a2, qe, g2, hsc, hpl, List.append_assoc, List.cons_append, List.nil_append]; rfl))
  have hlen : (List.range (1 + c)).length = 1 + c := List.length_range
  rw [hlen] at hP
  rcases hP with ⟨z, _⟩ | ⟨_, g0, neg, s0, f0, d0, lst, f, k2, s7, s8, s9, s10, rfl, q1, q2, q3, q4, q5, q6, q7, q8, q9, q10⟩
  · omega
  · obtain ⟨g, sg, hg, hgl⟩ := lgap_eq (L := L) (k := k2) hL
    have hxm : (1 + c) * (M + 3) ≤ 3 * (M + 3) := Nat.mul_le_mul (by omega) (Nat.le_refl _)
    have et : g0 ++ ((if neg = true then 45 :: s0 else s0) ++ (smT lst ++ g)) = g0 ++ ((if neg = true then 45 :: s0 else s0) ++ smT lst) ++ g := by simp [List.append_assoc]
    have a0 := addT (a := g0 ++ ((if neg = true then 45 :: s0 else s0) ++ smT lst)) (b := g) (by omega)
    refine ⟨g0 ++ ((if neg = true then 45 :: s0 else s0) ++ (smT lst ++ g)), f, k2 + 1, ?_, q7, ?_, ?_, ?_⟩
    · rw [et]
      generalize g0 ++ ((if neg = true then 45 :: s0 else s0) ++ smT lst) = Tx at a0 ⊢
      simp_arith [rtS_e, slfK_e, eTup_e, eC_e, eN_e, eop2_e, puE_e, eCal_e, retK_e, sg, a0, fnS_ret, List.set, List.getD]
    · intro fu hfu
      obtain ⟨fu', rfl⟩ : ∃ fu', fu = fu' + 1 := ⟨fu - 1, by omega⟩
      exact rd_terms q1 (q2 fu' (by omega)) q3 (fun q hq => q5 q hq fu' (by omega)) q4 q6 hg (by omega)
    · rw [et, List.length_append]
      omega
    · rw [et]
      intro x hx
      rcases List.mem_append.mp hx with hx | hx
      · exact q10 x hx
      · exact gap_sm hg x hx
end

section
variable {p : Nat} {ns : List Str} {ws : List (List Nat)} {L : List Int}
theorem lstep (h : PP p) (hP : Pl ns) (hns : 1 ≤ ns.length ∧ ns.length ≤ 10) (hpt : (pts p ns.length).length ≤ 100) (hnd : ns.Nodup) (hws : ns = ws.map fun w => (⟨w.toArray⟩ : Str)) (hw : ∀ w ∈ ws, NmOk w) (hL : 0 < L.length ∧ L.length ≤ 1000) {d M fu0 : Nat} (hM : M ≤ 5000)
    (ht : ∀ d', d = d' + 1 → ∀ k, LRes p ns L M (SumR p ns d') (F__law_sum_rec fu0 [nD p, .lst (ns.map .str), stD L k, nD d'])) (k : Nat) : ∃ s f k', F__law_sum_rec (fu0 + 1) [nD p, .lst (ns.map .str), stD L k, nD d] = some (.tup [.tup [txD s, pD f], stD L k']) ∧ Can p ns.length f ∧ SumR p ns d s f ∧ s.length ≤ 9 * M + 410 ∧ ∀ c ∈ s, Ch c := by
  have h4 := lsum_eq (k := k) (d := d) (M := 3 * (M + 20 + 20) + 10) (fu0 := fu0) h hns hpt hL (by omega) fun k =>
    lproduct_eq (M := M + 20 + 20) h hns hpt hL (by omega) fun k => lfactor_eq (M := M + 20) h hns hpt hL (by omega) fun k => lbase_eq h hP hns hnd hws hw hL (by omega) ht
  obtain ⟨s, f, k', h1, h3, h4, h5, h6⟩ := h4
  exact ⟨s, f, k', h1, h3, h4, by omega, h6⟩
theorem LRes.of {m m' d : Nat} {X : Option D} (h : ∃ s f k', X = some (.tup [.tup [txD s, pD f], stD L k']) ∧ Can p ns.length f ∧ SumR p ns d s f ∧ s.length ≤ m ∧ ∀ c ∈ s, Ch c) (hm : m ≤ m') : LRes p ns L m' (SumR p ns d) X := by
  obtain ⟨s, f, k', h1, h3, h4, h5, h6⟩ := h
  exact ⟨s, f, pD f, k', h1, rfl, h3, h4, by omega, h6⟩
theorem lexp_eq (h : PP p) (hP : Pl ns) (hns : 1 ≤ ns.length ∧ ns.length ≤ 10) (hpt : (pts p ns.length).length ≤ 100) (hnd : ns.Nodup) (hws : ns = ws.map fun w => (⟨w.toArray⟩ : Str)) (hw : ∀ w ∈ ws, NmOk w) (c : Int) :
    ∃ s f, F__law_expression [nD p, .lst (ns.map .str), .int c] = some (.tup [txD s, pD f]) ∧ Can p ns.length f ∧ Rd (spcD p ns) F_Reader_terms s (pD f) [94, 42, 43, 45] ∧ s.length ≤ 40000 ∧ ∀ c ∈ s, Ch c := by
  obtain ⟨L, hd, hl, _⟩ := digits_eq c 5040 97 (by omega) (by omega)
  have hL : 0 < L.length ∧ L.length ≤ 1000 := by omega
  have s0 := fun k => lstep (L := L) (d := 0) (M := 0) (fu0 := 1) h hP hns hpt hnd hws hw hL (by omega) (fun d' z => by omega) k
  have s1 := fun k => lstep (L := L) (d := 1) (M := 410) (fu0 := 2) h hP hns hpt hnd hws hw hL (by omega) (fun d' z k => by
    obtain rfl : d' = 0 := by omega
    exact LRes.of (s0 k) (by omega)) k
  obtain ⟨s, f, k', h1, h3, h4, h5, h6⟩ := lstep (L := L) (d := 2) (M := 4100) (fu0 := 3) h hP hns hpt hnd hws hw hL (by omega) (fun d' z k => by
    obtain rfl : d' = 1 := by omega
    exact LRes.of (s1 k) (by omega)) 0
  have hd : F__law_digits [.int c, .int 5040, .int 97] = some (.lst (L.map .int)) := hd
  have hn : nCal F__law_sum 2 (aC (var 0) (aC (var 1) aN)) (lstE (aC (cal F__law_digits (aC (var 2) (aC (cst (.int 5040)) (aC (cst (.int 97)) aN)))) (aC (cst (.int 0)) aN))) (aC (cst (.int 2)) aN) [.val (nD p), .val (.lst (ns.map .str)), .val (.int c)] = some (.tup [txD s, pD f]) :=
    nCal_e (xs := [nD p, .lst (ns.map .str)]) (d := stD L 0) (ys := [nD 2]) (d' := stD L k') (by simp_arith []) (by simp_arith [hd]; rfl) (by simp_arith []; rfl) rfl rfl h1
  refine ⟨s, f, ?_, h3, h4 4 (by omega), by omega, h6⟩
  unfold F__law_expression
  simp_arith [hn]
end

theorem lscaled_eq {p n : Nat} (hp : 2 ≤ p ∧ p ≤ 1000) {f : Poly} (hf : Can p n f) (hfl : f.length ≤ 1000) (c : Int) : F__law_scaled [nD p, pD f, .int c] = some (pD (mk p (scal f c))) := by
  have e1 : lcRun (gD (.t [(.n 4), (.n 5)])) yes (tupE (aC (var 4) (aC (op2 modD (cal (f1 intD) (aC (op2 mulD (var 5) (var 2)) aN)) (var 0)) aN))) [.val (nD p), .val (pD f), .val (.int c), .no, .no, .no, .no] (f.map rowD) = some ((f.map fun r => (r.1, r.2 * c % (p : Int))).map rowD) :=
    lcRun_m (enc := rowD) (enc' := rowD) (fun r : List Int × Int => (r.1, r.2 * c % (p : Int))) fun r hr => by
      have h1 := hf.1 r hr
      have hr4 : -18446744073709551616 < r.2 ∧ r.2 < 18446744073709551616 := by omega
      simp_arith []
  have e2 : lcRun (gD (.n 6)) (cmp (neg eqD) (op2 getD (var 6) (cst (.int 1))) (cst (.int 0))) (var 6) [.val (nD p), .val (pD f), .val (.int c), .val (.lst ((f.map fun r => (r.1, r.2 * c % (p : Int))).map rowD)), .no, .no, .no] ((f.map fun r => (r.1, r.2 * c % (p : Int))).map rowD) = some ((((f.map fun r => (r.1, r.2 * c % (p : Int))).filter fun r => r.2 ≠ 0).map id).map rowD) :=
    lcRun_f (enc := rowD) (enc' := rowD) (fun r : List Int × Int => decide (r.2 ≠ 0)) id fun r hr => by
      by_cases h : r.2 = 0
      · simp_arith [h]
      · have h2 : r.2 = 0 ↔ False := iff_false_intro h
        simp_arith [h2, id]
  rw [List.map_id] at e2
  have e3 := lscal_eq (c := c) (show 0 < p by omega) hf
  unfold lscal at e3
  rw [e3] at e2
  unfold F__law_scaled
  simp_arith [e1, e2]
theorem lminus_eq {p n : Nat} (hp : 2 ≤ p ∧ p ≤ 1000) (hn : 1 ≤ n) {f g : Poly} (hf : Can p n f) (hg : Can p n g) (hfl : f.length ≤ 400) (hgl : g.length ≤ 400) : F__law_minus [nD p, pD f, pD g] = some (pD (subP p f g)) := by
  have e1 := lscaled_eq hp hg (by omega) ((p : Int) - 1)
  have c1 := scl_can (c := (p : Int) - 1) (show 0 < p by omega) hg
  have l1 : (mk p (scal g ((p : Int) - 1))).length ≤ 400 := Nat.le_trans mk_len (by rw [scal_len]; exact hgl)
  have e2 := lplus_g (p := p) (f := f) (g := mk p (scal g ((p : Int) - 1))) (by omega) (fun r hr => by
    rcases List.mem_append.mp hr with hr | hr
    · exact (hf.pol.pw r hr).ne hn
    · exact (c1.pol.pw r hr).ne hn) (by omega)
  unfold F__law_minus
  simp_arith [e1, e2]
  rfl




inductive Fc where
  | num (c : Nat)
  | nam (w : List Nat) (x : Nat)
def Fc.txt : Fc → List Nat
  | .num c => [48 + c]
  | .nam w x => if x = 1 then w else w ++ [94, 48 + x]
def Fc.ok (ns : List Str) : Fc → Prop
  | .num c => c ≤ 9
  | .nam w x => NmOk w ∧ (⟨w.toArray⟩ : Str) ∈ ns ∧ x ≤ 9
def Fc.P (p : Nat) (ns : List Str) : Fc → Poly
  | .num c => mk p [(List.replicate ns.length 0, (c : Int))]
  | .nam w x => if x = 1 then unkP p ns.length (idxf ns ⟨w.toArray⟩) else powP p ns.length (unkP p ns.length (idxf ns ⟨w.toArray⟩)) (less p x).toNat
theorem Fc.can {p : Nat} {ns : List Str} (hp : 2 ≤ p) (f : Fc) : Can p ns.length (f.P p ns) := by
  cases f with
  | num c => exact mk_can (by omega) (fun r hr => by rw [List.mem_singleton.mp hr]; exact Pw.zero (by omega)) one_nk
  | nam w x =>
    unfold Fc.P
    simp only
    split
    · exact unk_can hp
    · exact powP_can hp (unk_can hp).pol.pw _
theorem Fc.head {ns : List Str} {f : Fc} (h : f.ok ns) : f.txt ≠ [] ∧ f.txt.getD 0 0 ≠ 32 ∧ f.txt.getD 0 0 = (match f with | .num c => 48 + c | .nam w _ => w.getD 0 0) := by
  cases f with
  | num c => exact ⟨by simp [Fc.txt], by show 48 + c ≠ 32; omega, rfl⟩
  | nam w x =>
    obtain ⟨⟨h0, h1, _, _⟩, _, _⟩ := h
    have hl : ∀ c ∈ LTR, c ≠ 32 := by decide
    unfold Fc.txt
    simp only
    split
    · exact ⟨h0, hl _ h1, rfl⟩
    · have e : (w ++ [94, 48 + x]).getD 0 0 = w.getD 0 0 := by
        rw [List.getD_eq_getElem?_getD, List.getElem?_append_left (List.length_pos_iff.mpr h0), List.getD_eq_getElem?_getD]
      exact ⟨by simp, by rw [e]; exact hl _ h1, e⟩

def starL : List Fc → List Nat
  | [] => []
  | f :: l => 42 :: (f.txt ++ starL l)
def mulF (p : Nat) (ns : List Str) (P0 : Poly) : List Fc → Poly
  | [] => P0
  | f :: l => mulF p ns (mk p (addM (prodL p P0 (f.P p ns)))) l

abbrev Tm := Fc × List Fc
def Tm.tx (m : Tm) : List Nat := m.1.txt ++ starL m.2
def Tm.ok (ns : List Str) (m : Tm) : Prop := m.1.ok ns ∧ ∀ f ∈ m.2, f.ok ns
def Tm.P (p : Nat) (ns : List Str) (m : Tm) : Poly := mulF p ns (m.1.P p ns) m.2
def plusL : List Tm → List Nat
  | [] => []
  | m :: l => 32 :: 43 :: 32 :: (Tm.tx m ++ plusL l)
def sumF (p : Nat) (ns : List Str) (P0 : Poly) : List Tm → Poly
  | [] => P0
  | m :: l => sumF p ns (mk p (addM (P0 ++ Tm.P p ns m))) l
theorem mulF_can {p : Nat} {ns : List Str} (hp : 2 ≤ p) : ∀ (l : List Fc) (P0 : Poly), Can p ns.length P0 → Can p ns.length (mulF p ns P0 l)
  | [], _, h => h
  | f :: l, P0, h => mulF_can hp l _ (times_can hp h.pol.pw (Fc.can hp f).pol.pw)

theorem ev_unkR {p n a : Nat} (hp : 2 ≤ p) {x : List Int} (hx : x.length = n) (ha : a < n) : ev (unkP p n a) x = x.getD a 0 := by
  rw [unk_eq hp]
  simp [ev, ws, mon_unit hx ha]
theorem ev_cR {p n : Nat} {v : Int} {x : List Int} : ev (mk p [(List.replicate n 0, v)]) x % (p : Int) = v % (p : Int) := by
  rw [ev_mk one_nk]
  simp [ev, ws, mon_zero]
def vF (ns : List Str) (x : List Int) : Fc → Int
  | .num c => c
  | .nam w e => x.getD (idxf ns ⟨w.toArray⟩) 0 ^ e
def Fc.sm (p : Nat) : Fc → Prop
  | .num _ => True
  | .nam _ e => 1 ≤ e ∧ e < p
def prI (l : List Int) : Int := l.foldr (· * ·) 1
theorem ev_fc {p : Nat} {ns : List Str} (h : PP p) (hp : 2 ≤ p) {f : Fc} (hf : f.ok ns) (hs : f.sm p) {x : List Int} (hx : Pw p ns.length x) : ev (f.P p ns) x % (p : Int) = vF ns x f % (p : Int) := by
  cases f with
  | num c => exact ev_cR
  | nam w e =>
    obtain ⟨_, hwn, _⟩ := hf
    obtain ⟨h1, h2⟩ := hs
    have hq := (indexOf_str hwn).2.1
    have hu := ev_unkR hp hx.1 hq
    unfold Fc.P vF
    simp only
    split
    · rename_i he
      subst he
      rw [hu, show ((x.getD (idxf ns ⟨w.toArray⟩) 0) ^ 1 : Int) = x.getD (idxf ns ⟨w.toArray⟩) 0 from by rw [Int.pow_succ, Int.pow_zero, Int.one_mul]]
    · have hle : (less p e).toNat = e := by
        unfold less
        rw [if_pos (by omega)]
        omega
      rw [hle, ev_pow h (unk_can hp).pol.pw hx e, hu]
theorem ev_mulF {p : Nat} {ns : List Str} (h : PP p) (hp : 2 ≤ p) {x : List Int} (hx : Pw p ns.length x) : ∀ (l : List Fc) (P0 : Poly), Can p ns.length P0 → (∀ f ∈ l, f.ok ns ∧ f.sm p) → ev (mulF p ns P0 l) x % (p : Int) = (ev P0 x * prI (l.map (vF ns x))) % (p : Int)
  | [], P0, _, _ => by simp [mulF, prI]
  | f :: l, P0, hP0, hl => by
    obtain ⟨h1, h2⟩ := hl f List.mem_cons_self
    have hc := Fc.can (ns := ns) hp f
    have ih := ev_mulF h hp hx l (mk p (addM (prodL p P0 (f.P p ns)))) (times_can hp hP0.pol.pw hc.pol.pw) fun g hg => hl g (List.mem_cons_of_mem _ hg)
    have ht := ev_times h hP0.pol.pw hc.pol.pw hx
    have hf := ev_fc h hp h1 h2 hx
    show ev (mulF p ns (mk p (addM (prodL p P0 (f.P p ns)))) l) x % (p : Int) = _
    rw [ih, Int.mul_emod, ht, ← Int.mul_emod]
    show ev P0 x * ev (f.P p ns) x * prI (l.map (vF ns x)) % (p : Int) = ev P0 x * (vF ns x f * prI (l.map (vF ns x))) % (p : Int)
    rw [Int.mul_assoc, Int.mul_emod, Int.mul_emod (ev (f.P p ns) x), hf, ← Int.mul_emod (vF ns x f), ← Int.mul_emod]
theorem ev_tm {p : Nat} {ns : List Str} (h : PP p) (hp : 2 ≤ p) {x : List Int} (hx : Pw p ns.length x) {m : Tm} (hm : ∀ f ∈ m.1 :: m.2, f.ok ns ∧ f.sm p) : ev (Tm.P p ns m) x % (p : Int) = prI ((m.1 :: m.2).map (vF ns x)) % (p : Int) := by
  obtain ⟨h1, h2⟩ := hm m.1 List.mem_cons_self
  unfold Tm.P
  rw [ev_mulF h hp hx m.2 _ (Fc.can hp m.1) fun f hf => hm f (List.mem_cons_of_mem _ hf), Int.mul_emod, ev_fc h hp h1 h2 hx, ← Int.mul_emod]
  rfl
theorem sumF_can {p : Nat} {ns : List Str} (hp : 2 ≤ p) : ∀ (l : List Tm) (P0 : Poly), Can p ns.length P0 → Can p ns.length (sumF p ns P0 l)
  | [], _, h => h
  | m :: l, P0, h => sumF_can hp l _ (add_can (by omega) h.pol.pw (mulF_can hp _ _ (Fc.can hp m.1)).pol.pw)
theorem ev_sumF {p : Nat} {ns : List Str} (hp : 2 ≤ p) {x : List Int} : ∀ (l : List Tm) (P0 : Poly), ev (sumF p ns P0 l) x % (p : Int) = (ev P0 x + (l.map fun m => ev (Tm.P p ns m) x).sum) % (p : Int)
  | [], P0 => by simp [sumF]
  | m :: l, P0 => by
    show ev (sumF p ns (mk p (addM (P0 ++ Tm.P p ns m))) l) x % (p : Int) = _
    rw [ev_sumF hp l, Int.add_emod, ev_add, ← Int.add_emod, List.map_cons, List.sum_cons, Int.add_assoc]

def nmF : List (List Nat × Int) → List Fc
  | [] => []
  | q :: l => if q.2 = 0 then nmF l else .nam q.1 q.2.toNat :: nmF l
def rowF (ws : List (List Nat)) (r : List Int × Int) : List Fc := (if r.2 ≠ 1 ∨ (r.1.all fun e => decide (e = 0)) = true then [.num r.2.toNat] else []) ++ nmF (ws.zip r.1)
def toTm : List Fc → Tm
  | [] => (.num 1, [])
  | f :: l => (f, l)
theorem prI_nmF {ns : List Str} {x : List Int} : ∀ (ws : List (List Nat)) (k y : List Int), (∀ (j : Nat) (w : List Nat), ws[j]? = some w → x.getD (idxf ns ⟨w.toArray⟩) 0 = y.getD j 0) → ws.length = k.length → k.length = y.length → prI ((nmF (ws.zip k)).map (vF ns x)) = mon k y
  | [], k, y, _, h1, h2 => by
    have hk : k = [] := List.eq_nil_of_length_eq_zero (by simpa using h1.symm)
    subst hk
    rfl
  | w :: ws, [], y, _, h1, _ => by cases h1
  | w :: ws, e :: k, [], _, _, h2 => by cases h2
  | w :: ws, e :: k, z :: y, h, h1, h2 => by
    have ih := prI_nmF ws k y (fun j w' hw => by
      have := h (j + 1) w' (by simpa using hw)
      simpa using this) (by simpa using h1) (by simpa using h2)
    have h0 := h 0 w rfl
    rw [mon_cons, List.zip_cons_cons]
    unfold nmF
    simp only
    split
    · rename_i he
      rw [ih, he]
      simp
    · rw [List.map_cons]
      show x.getD (idxf ns ⟨w.toArray⟩) 0 ^ e.toNat * prI _ = _
      rw [ih, h0]
      rfl
theorem nmF_ok {ns : List Str} {p : Nat} (hp9 : p ≤ 9) : ∀ (ws : List (List Nat)) (k : List Int), (∀ w ∈ ws, NmOk w ∧ (⟨w.toArray⟩ : Str) ∈ ns) → (∀ e ∈ k, 0 ≤ e ∧ e < (p : Int)) → ∀ f ∈ nmF (ws.zip k), f.ok ns ∧ f.sm p
  | [], _, _, _ => by simp [nmF]
  | _ :: _, [], _, _ => by simp [nmF]
  | w :: ws, e :: k, hw, hk => fun f hf => by
    have ih := nmF_ok hp9 ws k (fun v hv => hw v (List.mem_cons_of_mem _ hv)) (fun v hv => hk v (List.mem_cons_of_mem _ hv))
    have he := hk e List.mem_cons_self
    rw [List.zip_cons_cons] at hf
    unfold nmF at hf
    simp only at hf
    split at hf
    · exact ih f hf
    · rcases List.mem_cons.mp hf with rfl | hf
      · obtain ⟨h1, h2⟩ := hw w List.mem_cons_self
        exact ⟨⟨h1, h2, by omega⟩, by show 1 ≤ e.toNat; omega, by show e.toNat < p; omega⟩
      · exact ih f hf
theorem nmF_len : ∀ (l : List (List Nat × Int)), (nmF l).length ≤ l.length
  | [] => Nat.le_refl _
  | q :: l => by
    unfold nmF
    have := nmF_len l
    split
    · simp; omega
    · simp; omega
theorem nmF_nil : ∀ (ws : List (List Nat)) (k : List Int), ws.length = k.length → nmF (ws.zip k) = [] → (k.all fun e => decide (e = 0)) = true
  | [], k, h1, _ => by
    have hk : k = [] := List.eq_nil_of_length_eq_zero (by simpa using h1.symm)
    subst hk; rfl
  | w :: ws, [], h1, _ => by cases h1
  | w :: ws, e :: k, h1, h => by
    rw [List.zip_cons_cons] at h
    unfold nmF at h
    simp only at h
    split at h
    · rename_i he
      have ih := nmF_nil ws k (by simpa using h1) h
      simp only [List.all_cons, he, decide_true, Bool.true_and]
      exact ih
    · cases h
theorem rowF_ne {ws : List (List Nat)} {r : List Int × Int} (h1 : ws.length = r.1.length) : rowF ws r ≠ [] := fun h => by
  unfold rowF at h
  obtain ⟨ha, hb⟩ := List.append_eq_nil_iff.mp h
  have := nmF_nil ws r.1 h1 hb
  rw [if_pos (.inr this)] at ha
  cases ha
theorem rowF_ok {ns : List Str} {p : Nat} (hp9 : p ≤ 9) {ws : List (List Nat)} {r : List Int × Int} (hw : ∀ w ∈ ws, NmOk w ∧ (⟨w.toArray⟩ : Str) ∈ ns) (hk : ∀ e ∈ r.1, 0 ≤ e ∧ e < (p : Int)) (hr : 0 < r.2 ∧ r.2 < (p : Int)) : ∀ f ∈ rowF ws r, f.ok ns ∧ f.sm p := fun f hf => by
  rcases List.mem_append.mp hf with hf | hf
  · split at hf
    · rw [List.mem_singleton.mp hf]
      exact ⟨by show r.2.toNat ≤ 9; omega, trivial⟩
    · cases hf
  · exact nmF_ok hp9 ws r.1 hw hk f hf
theorem prI_row {ns : List Str} {x : List Int} {ws : List (List Nat)} {r : List Int × Int} (h : ∀ (j : Nat) (w : List Nat), ws[j]? = some w → x.getD (idxf ns ⟨w.toArray⟩) 0 = x.getD j 0) (h1 : ws.length = r.1.length) (h2 : r.1.length = x.length) (hr : 0 < r.2) : prI ((rowF ws r).map (vF ns x)) = r.2 * mon r.1 x := by
  have hn := prI_nmF ws r.1 x h h1 h2
  unfold rowF
  split
  · rw [List.map_append]
    show ((r.2.toNat : Nat) : Int) * prI ((nmF (ws.zip r.1)).map (vF ns x)) = _
    rw [hn]
    congr 1
    omega
  · rename_i hc
    have : r.2 = 1 := Classical.byContradiction fun z => hc (.inl z)
    rw [List.nil_append, hn, this, Int.one_mul]
theorem toTm_all {l : List Fc} (h : l ≠ []) : (toTm l).1 :: (toTm l).2 = l := by
  cases l with
  | nil => exact absurd rfl h
  | cons f l => rfl

def tmR (ws : List (List Nat)) (r : List Int × Int) : Tm := toTm (rowF ws r)
def polT (ws : List (List Nat)) : Poly → List Nat
  | [] => [48]
  | r :: f => Tm.tx (tmR ws r) ++ plusL (f.map (tmR ws))

theorem pol_val {p : Nat} {ws : List (List Nat)} {ns : List Str} (h : PP p) (hp : 2 ≤ p ∧ p ≤ 9) (hnd : ns.Nodup) (hws : ns = ws.map fun w => (⟨w.toArray⟩ : Str)) (hns : 1 ≤ ns.length ∧ ns.length ≤ 10) (hw : ∀ w ∈ ws, NmOk w) {r : List Int × Int} {f : Poly} (hf : Can p ns.length (r :: f)) : (∀ q ∈ r :: f, Tm.ok ns (tmR ws q) ∧ (tmR ws q).2.length ≤ 100) ∧ sumF p ns (Tm.P p ns (tmR ws r)) (f.map (tmR ws)) = r :: f := by
  have hwl : ws.length = ns.length := by rw [hws, List.length_map]
  have hw2 : ∀ w ∈ ws, NmOk w ∧ (⟨w.toArray⟩ : Str) ∈ ns := fun w hm => ⟨hw w hm, by rw [hws]; exact List.mem_map.mpr ⟨w, hm, rfl⟩⟩
  have hlen : ∀ q ∈ r :: f, ws.length = q.1.length := fun q hq => by rw [hwl, (hf.1 q hq).1.1]
  have hall : ∀ q ∈ r :: f, ∀ g ∈ rowF ws q, g.ok ns ∧ g.sm p := fun q hq => rowF_ok hp.2 hw2 (fun e he => (hf.1 q hq).1.2 e he) (hf.1 q hq).2
  have hne : ∀ q ∈ r :: f, rowF ws q ≠ [] := fun q hq => rowF_ne (hlen q hq)
  have hrl : ∀ q ∈ r :: f, (rowF ws q).length ≤ 100 := fun q hq => by
    unfold rowF
    have h1 := nmF_len (ws.zip q.1)
    rw [List.length_zip] at h1
    rw [List.length_append]
    split <;> simp <;> omega
  have hok : ∀ q ∈ r :: f, Tm.ok ns (tmR ws q) ∧ (tmR ws q).2.length ≤ 100 := fun q hq => by
    have e := toTm_all (hne q hq)
    have hl := hrl q hq
    rw [← e] at hl
    refine ⟨⟨(hall q hq _ (by rw [← e]; exact List.mem_cons_self)).1, fun g hg => (hall q hq _ (by rw [← e]; exact List.mem_cons_of_mem _ hg)).1⟩, ?_⟩
    have : (toTm (rowF ws q)).2.length + 1 ≤ 100 := by simpa using hl
    show (toTm (rowF ws q)).2.length ≤ 100
    omega
  have hev : ∀ x, Pw p ns.length x → ∀ q ∈ r :: f, ev (Tm.P p ns (tmR ws q)) x % (p : Int) = q.2 * mon q.1 x % (p : Int) := fun x hx q hq => by
    have e := toTm_all (hne q hq)
    have z := ev_tm h hp.1 hx (m := tmR ws q) (fun g hg => hall q hq g (by rw [← e]; exact hg))
    have e' : (tmR ws q).1 :: (tmR ws q).2 = rowF ws q := e
    rw [e', prI_row (fun j w hj => by
      have hns' : ns[j]? = some (⟨w.toArray⟩ : Str) := by rw [hws, List.getElem?_map, hj]; rfl
      rw [idx_nodup hnd hns']) (hlen q hq) (by rw [(hf.1 q hq).1.1, hx.1]) (hf.1 q hq).2.1] at z
    exact z
  have hP0 : Can p ns.length (Tm.P p ns (tmR ws r)) := mulF_can hp.1 _ _ (Fc.can hp.1 _)
  have hsc := sumF_can (ns := ns) hp.1 (f.map (tmR ws)) (Tm.P p ns (tmR ws r)) hP0
  refine ⟨hok, uniq h hsc hf fun x hx => by
    have hxw := pts_pw x hx
    rw [ev_sumF hp.1]
    have hs : ∀ l : Poly, (∀ q ∈ l, q ∈ r :: f) → ((l.map (tmR ws)).map fun m => ev (Tm.P p ns m) x).sum % (p : Int) = ev l x % (p : Int) := fun l => by
      induction l with
      | nil => intro _; simp [ev, PV.ws]
      | cons q l ih =>
        intro hl
        have i1 := ih fun q' hq' => hl q' (List.mem_cons_of_mem _ hq')
        have i2 := hev x hxw q (hl q List.mem_cons_self)
        have e : ev (q :: l) x = q.2 * mon q.1 x + ev l x := by simp [ev, PV.ws]
        rw [List.map_cons, List.map_cons, List.sum_cons, e, Int.add_emod, i1, i2, ← Int.add_emod]
    have hh := hs (r :: f) fun q hq => hq
    rw [List.map_cons, List.map_cons, List.sum_cons] at hh
    exact hh⟩

theorem fc_h45 {ns : List Str} {f : Fc} (h : f.ok ns) : f.txt ≠ [] ∧ f.txt.getD 0 0 ≠ 32 ∧ f.txt.getD 0 0 ≠ 45 := by
  obtain ⟨h1, h2, h3⟩ := Fc.head h
  refine ⟨h1, h2, ?_⟩
  rw [h3]
  cases f with
  | num c => show 48 + c ≠ 45; omega
  | nam w x => exact (nm_hd h.1).2
section
variable {p : Nat} {ns : List Str} {ws : List (List Nat)} {t : Fn}
theorem rd_fc (h : PP p) (hP : Pl ns) (hns : 1 ≤ ns.length ∧ ns.length ≤ 10) (hpt : (pts p ns.length).length ≤ 100) {f : Fc} (hf : f.ok ns) {g : List Nat} (hg : Gap g) : Rd (spcD p ns) (F_Reader_factor_g t) (g ++ f.txt) (pD (f.P p ns)) [94] := by
  have hp := h.bd
  have g0 : Gap [] := fun x hx => nomatch hx
  have hdg : ∀ c ≤ 9, 48 + c ∈ DG := by decide
  have hdv : ∀ c, digV [48 + c] = c := fun c => by simp [digV]
  cases f with
  | num c =>
    have hc : c ≤ 9 := hf
    have := rd_fac0 (rd_num (t := t) (K := []) (ns := ns) (p := p) (by omega) hp.1 hg (d := [48 + c]) (g2 := []) ⟨by simp, fun x hx => by rw [List.mem_singleton.mp hx]; exact hdg c hc, by simp⟩ g0) g0
    rw [hdv] at this
    simpa [Fc.txt, Fc.P] using this
  | nam w x =>
    obtain ⟨h1, h2, h3⟩ := hf
    have hb := rd_nam (t := t) (K := []) (p := p) hP (by omega) hp.1 hg h1 h2 g0
    by_cases hx : x = 1
    · have := rd_fac0 hb g0
      simpa [Fc.txt, Fc.P, hx] using this
    · have hr := raisedP_eq h (ns := ns) rfl (d := pD (unkP p ns.length (idxf ns ⟨w.toArray⟩))) (f := unkP p ns.length (idxf ns ⟨w.toArray⟩)) rfl hns (unk_can hp.1).pol (by rw [unk_eq hp.1]; simp) hpt (e := (x : Int)) (by omega)
      have := rd_fac1 hb g0 (d := [48 + x]) ⟨by simp, fun y hy => by rw [List.mem_singleton.mp hy]; exact hdg x h3, by simp⟩ g0 (by rw [hdv]; exact hr)
      simpa [Fc.txt, Fc.P, hx] using this
theorem prT_star (P : Fc → D) : ∀ l : List Fc, prT (l.map fun f => (f.txt, P f)) = starL l
  | [] => rfl
  | f :: l => by
    have ih := prT_star P l
    show 42 :: f.txt ++ prT (l.map fun f => (f.txt, P f)) = 42 :: (f.txt ++ starL l)
    rw [ih]; rfl
theorem prc_mul (h : PP p) (hns : 1 ≤ ns.length ∧ ns.length ≤ 10) (hpt : (pts p ns.length).length ≤ 100) : ∀ (l : List Fc) (P0 : Poly), Can p ns.length P0 → PrC (spcD p ns) (pD P0) (l.map fun f => (f.txt, pD (f.P p ns))) (pD (mulF p ns P0 l))
  | [], P0, _ => .nil
  | f :: l, P0, hc => by
    have hp := h.bd
    have hfc := Fc.can (p := p) (ns := ns) hp.1 f
    have h1 := hc.len
    have h2 := hfc.len
    refine .cons (timesI_eq h (ns := ns) (d1 := pD P0) (d2 := pD (f.P p ns)) rfl rfl hns hc.pol hfc.pol (by omega) (by omega)) ?_
    exact prc_mul h hns hpt l _ (times_can hp.1 hc.pol.pw hfc.pol.pw)
theorem rd_tm (h : PP p) (hP : Pl ns) (hns : 1 ≤ ns.length ∧ ns.length ≤ 10) (hpt : (pts p ns.length).length ≤ 100) {m : Tm} (hm : Tm.ok ns m ∧ m.2.length ≤ 100) {g : List Nat} (hg : Gap g) : Rd (spcD p ns) (F_Reader_product_g t) (g ++ Tm.tx m) (pD (Tm.P p ns m)) [94, 42] := by
  have hp := h.bd
  have g0 : Gap [] := fun x hx => nomatch hx
  have := rd_prod (t := t) (rd_fc h hP hns hpt hm.1.1 hg) (l := m.2.map fun f => (f.txt, pD (f.P p ns))) (fun q hq => by
    obtain ⟨f, hf, rfl⟩ := List.mem_map.mp hq
    exact rd_fc h hP hns hpt (hm.1.2 f hf) g0) (prc_mul h hns hpt m.2 _ (Fc.can hp.1 _)) (by rw [List.length_map]; omega)
  rw [prT_star, List.append_assoc] at this
  exact this
def smP (p : Nat) (ns : List Str) (l : List Tm) : List SmI := l.map fun m => ⟨[32], false, [32] ++ Tm.tx m, pD (Tm.P p ns m)⟩
theorem smT_plus : ∀ l : List Tm, smT (smP p ns l) = plusL l
  | [] => rfl
  | m :: l => by
    have ih := smT_plus l
    show ([32] ++ 43 :: ([32] ++ Tm.tx m)) ++ smT (smP p ns l) = 32 :: 43 :: 32 :: (Tm.tx m ++ plusL l)
    rw [ih]; rfl
theorem smc_sum (h : PP p) (hns : 1 ≤ ns.length ∧ ns.length ≤ 10) (hpt : (pts p ns.length).length ≤ 100) : ∀ (l : List Tm) (P0 : Poly), Can p ns.length P0 → SmC (spcD p ns) (pD P0) (smP p ns l) (pD (sumF p ns P0 l))
  | [], P0, _ => .nil
  | m :: l, P0, hc => by
    have hp := h.bd
    have hmc : Can p ns.length (Tm.P p ns m) := mulF_can hp.1 _ _ (Fc.can hp.1 _)
    have h1 := hc.len
    have h2 := hmc.len
    refine .cons (d2 := pD (mk p (addM (P0 ++ Tm.P p ns m)))) (plus_eq hp.1 hns.1 (d := pD (Tm.P p ns m)) hc rfl hmc.pol.pw (by omega) (by omega)) ?_
    exact smc_sum h hns hpt l _ (add_can (by omega) hc.pol.pw hmc.pol.pw)
theorem rd_polT (h : PP p) (hP : Pl ns) (hns : 1 ≤ ns.length ∧ ns.length ≤ 10) (hpt : (pts p ns.length).length ≤ 100) (hnd : ns.Nodup) (hws : ns = ws.map fun w => (⟨w.toArray⟩ : Str)) (hw : ∀ w ∈ ws, NmOk w) {f : Poly} (hf : Can p ns.length f) (hfl : f.length ≤ 900) : Rd (spcD p ns) F_Reader_terms (polT ws f) (pD f) [94, 42, 43, 45] := by
  have hp := h.bd
  have g0 : Gap [] := fun x hx => nomatch hx
  have g1 : Gap [32] := fun x hx => List.mem_singleton.mp hx
  cases f with
  | nil =>
    have hz : Tm.ok ns ((.num 0, []) : Tm) ∧ ((.num 0, []) : Tm).2.length ≤ 100 := ⟨⟨Nat.zero_le 9, by simp⟩, by simp⟩
    have := rd_terms (p := p) (ns := ns) (fu := 3) (neg := false) (l := []) g0 (rd_tm h hP hns hpt hz g0) (fun _ => by
      rw [List.nil_append]
      exact (hd_base (g := []) (s := [48]) g0 (by simp) (by decide) (by decide)).app _) (by simp) rfl .nil g0 (by simp)
    have e : Tm.P p ns ((.num 0, []) : Tm) = [] := by
      show mk p [(List.replicate ns.length 0, ((0 : Nat) : Int))] = []
      simp [mk]
    rw [e] at this
    exact this
  | cons r f =>
    obtain ⟨hok, hv⟩ := pol_val h ⟨hp.1, by omega⟩ hnd hws hns hw hf
    have h0 := hok r List.mem_cons_self
    obtain ⟨q1, q2, q3⟩ := fc_h45 h0.1.1
    have hP0 : Can p ns.length (Tm.P p ns (tmR ws r)) := mulF_can hp.1 _ _ (Fc.can hp.1 _)
    have := rd_terms (p := p) (ns := ns) (fu := 3) (neg := false) (l := smP p ns (f.map (tmR ws))) g0 (rd_tm h hP hns hpt h0 g0) (fun _ => (hd_base g0 q1 q2 q3).app (starL (tmR ws r).2)) (fun q hq => by
      obtain ⟨m, hm, rfl⟩ := List.mem_map.mp hq
      obtain ⟨q2, hq2, rfl⟩ := List.mem_map.mp hm
      exact ⟨g1, rd_tm h hP hns hpt (hok q2 (List.mem_cons_of_mem _ hq2)) g1⟩) rfl (smc_sum h hns hpt _ _ hP0) g0 (by rw [smP, List.length_map, List.length_map]; rw [List.length_cons] at hfl; omega)
    rw [hv, smT_plus] at this
    show Rd (spcD p ns) (F_Reader_terms_rec 4) _ _ _
    simpa [polT] using this
end

theorem str_dg {c : Int} (h : 0 ≤ c ∧ c ≤ 9) : strI (.int c) = some (txD [48 + c.toNat]) := by
  have : c = 0 ∨ c = 1 ∨ c = 2 ∨ c = 3 ∨ c = 4 ∨ c = 5 ∨ c = 6 ∨ c = 7 ∨ c = 8 ∨ c = 9 := by omega
  rcases this with rfl | rfl | rfl | rfl | rfl | rfl | rfl | rfl | rfl | rfl <;> rfl
abbrev sS (l : List Nat) : Str := ⟨l.toArray⟩
theorem sS_app (a b : List Nat) : sS a ++ sS b = sS (a ++ b) := by
  show (⟨a.toArray ++ b.toArray⟩ : Str) = _
  simp
theorem strs_tx : ∀ (l : List (List Nat)), strsOf (l.map txD) = some (l.map sS)
  | [] => rfl
  | x :: l => by
    have := strs_tx l
    rw [List.map_cons]
    show (strsOf (l.map txD)).map _ = _
    rw [this]; rfl
def gl (sep : List Nat) : List (List Nat) → List Nat
  | [] => []
  | x :: l => sep ++ (x ++ gl sep l)
theorem join_tx (sep : List Nat) : ∀ (x : List Nat) (l : List (List Nat)), PySem.Str.join (sS sep) (sS x :: l.map sS) = sS (x ++ gl sep l)
  | x, [] => by simp [PySem.Str.join, gl]
  | x, y :: l => by
    have ih := join_tx sep y l
    show sS x ++ sS sep ++ PySem.Str.join (sS sep) (sS y :: l.map sS) = _
    rw [ih, sS_app, sS_app]
    simp [gl, List.append_assoc]
theorem joinD_tx {sep x : List Nat} {l : List (List Nat)} (h : (((x :: l).map sS).map (·.length)).sum + ((x :: l).map sS).length * (sS sep).length ≤ 16777216) : joinD (txD sep) (.lst ((x :: l).map txD)) = some (txD (x ++ gl sep l)) := by
  show (strsOf ((x :: l).map txD)).bind _ = _
  rw [strs_tx, Option.bind_some, if_pos h]
  show some (D.str (PySem.Str.join (sS sep) (sS x :: l.map sS))) = _
  rw [join_tx]
  rfl
theorem gl_star : ∀ l : List Fc, gl [42] (l.map Fc.txt) = starL l
  | [] => rfl
  | f :: l => by
    rw [List.map_cons]
    show [42] ++ (f.txt ++ gl [42] (l.map Fc.txt)) = _
    rw [gl_star l]; rfl
theorem gl_plus : ∀ l : List Tm, gl [32, 43, 32] (l.map Tm.tx) = plusL l
  | [] => rfl
  | m :: l => by
    rw [List.map_cons]
    show [32, 43, 32] ++ (Tm.tx m ++ gl [32, 43, 32] (l.map Tm.tx)) = _
    rw [gl_plus l]; rfl

theorem addD_tx {a b : List Nat} (h : a.length + b.length ≤ 100000) : addD (txD a) (txD b) = some (txD (a ++ b)) := by
  have hl : (sS a).length + (sS b).length ≤ szL := by
    show a.toArray.size + b.toArray.size ≤ szL
    unfold szL; simp; omega
  show (if (sS a).length + (sS b).length ≤ szL then some (D.str (sS a ++ sS b)) else none) = _
  rw [if_pos hl, sS_app]
  rfl
theorem nmF_snoc : ∀ (l : List (List Nat × Int)) (q : List Nat × Int), nmF (l ++ [q]) = nmF l ++ (if q.2 = 0 then [] else [.nam q.1 q.2.toNat])
  | [], q => by
    simp only [List.nil_append, nmF]
  | a :: l, q => by
    have ih := nmF_snoc l q
    rw [List.cons_append]
    unfold nmF
    rw [ih]
    split <;> simp
def preF (r : List Int × Int) : List Fc := if r.2 ≠ 1 ∨ (r.1.all fun e => decide (e = 0)) = true then [.num r.2.toNat] else []
theorem anyT_i (k : List Int) : anyT (iD k) = some (.bl (!(k.all fun e => decide (e = 0)))) := by
  show (intsOf (k.map D.int)).map _ = _
  rw [intsOf_map, Option.map_some]
  congr 2
  induction k with
  | nil => rfl
  | cons a k ih =>
    rw [List.any_cons, List.all_cons, Bool.not_and, ih]
    by_cases h : a = 0 <;> simp [h]
theorem len_sum (n : Nat) : ∀ l : List (List Nat), (∀ x ∈ l, x.length ≤ n) → ((l.map sS).map (·.length)).sum ≤ n * l.length
  | [], _ => by simp
  | x :: l, h => by
    have ih := len_sum n l fun y hy => h y (List.mem_cons_of_mem _ hy)
    have hx := h x List.mem_cons_self
    have e : (sS x).length = x.length := by show x.toArray.size = _; simp
    rw [List.map_cons, List.map_cons, List.sum_cons, e, List.length_cons, Nat.mul_add]
    omega
theorem nmF_tx : ∀ (l : List (List Nat × Int)), (∀ q ∈ l, q.1.length ≤ 12) → ∀ f ∈ nmF l, f.txt.length ≤ 14
  | [], _ => by simp [nmF]
  | q :: l, h => fun f hf => by
    have ih := nmF_tx l fun y hy => h y (List.mem_cons_of_mem _ hy)
    have hq := h q List.mem_cons_self
    unfold nmF at hf
    split at hf
    · exact ih f hf
    · rcases List.mem_cons.mp hf with rfl | hf
      · unfold Fc.txt
        simp only
        split
        · omega
        · simp; omega
      · exact ih f hf
theorem iZn_e {a : Ax} {e : DEnv} : iZn a e = (a e).bind zipN := rfl
theorem write_term_eq {p : Nat} {ws : List (List Nat)} {ns : List Str} (hp9 : p ≤ 9) (hws : ns = ws.map sS) (hwl : ws.length ≤ 10) (hw : ∀ w ∈ ws, w.length ≤ 12) {r : List Int × Int} (hl : ws.length = r.1.length) (hk : ∀ e ∈ r.1, 0 ≤ e ∧ e < (p : Int)) (hr : 0 < r.2 ∧ r.2 < (p : Int)) : F_write_term [spcD p ns, iD r.1, .int r.2] = some (txD (Tm.tx (tmR ws r))) := by
  subst hws
  have hz : zipN [.lst ((ws.map sS).map .str), iD r.1] = some ((ws.zip r.1).map fun q => D.tup [txD q.1, .int q.2]) := by
    show some ((((ws.map sS).map D.str).zip (r.1.map D.int)).map fun p => D.tup [p.1, p.2]) = _
    rw [List.map_map, List.zip_map, List.map_map]
    rfl
  have hst := str_dg (c := r.2) ⟨by omega, by omega⟩
  have han := anyT_i r.1
  have hpre : (ifS (orT (cmp (neg eqD) (var 2) (cst (.int 1))) (notT (tes (cal (f1 anyT) (aC (var 1) aN))))) (app 3 (op1 strI (var 2))) skip) [.val (spcD p (ws.map sS)), .val (iD r.1), .val (.int r.2), .own (.lst []), .no, .no] = some (.nx [.val (spcD p (ws.map sS)), .val (iD r.1), .val (.int r.2), .own (.lst (((preF r).map Fc.txt).map txD)), .no, .no]) := by
    unfold preF
    by_cases h1 : r.2 = 1
    · cases hq : (r.1.all fun e => decide (e = 0)) with
      | true =>
        rw [hq] at han
        rw [if_pos (.inr rfl)]
        rw [h1] at hst ⊢
        simp_arith [neg_e, han, hst]
        rfl
      | false =>
        rw [hq] at han
        rw [if_neg (by simp [h1])]
        simp_arith [h1, neg_e, han]
    · have h1' : r.2 = 1 ↔ False := iff_false_intro h1
      rw [if_pos (.inl h1)]
      simp_arith [h1', neg_e, hst]
      rfl
  unfold F_write_term
  simp -implicitDefEqProofs (disch := first | omega | (simp only [List.length_map, List.length_cons, List.length_nil, List.length_append, List.length_range, List.length_replicate]; omega)) only [sq_e, sqK_nx, sqK_ret, sqK_bk, sqK_ct, skip_e, setE_e, newE_e, rt_e, brk_e, cnt_e, ifK_t, ifK_f, ifX_t, ifX_f, ifT_t, ifT_f, fncK_ret, fncK_nx, ctK_nx, ctK_ct, ctK_ret, lcK_e, lstK_e, tupK_e, tupK_f, tupK_cat, ftupD_lst, ftupE_e, lenD_f, getD_f, addD_ff, blK_e, ovK_e, vaK_e, ife_e, var_e, ovar_e, cst_e, op1_e, op2_e, op3_e, aN_e, aC_e, tupE_e, lstE_e, cal_e, f1_e, cmp_e, flip_e, neg_e, chn_e, boo_e, tes_e, ff_e, tt_e, andT_e, orT_e, notT_e, fX_e, tX_e, andV_e, orV_e, notV_e, isN_e, yes_e, asg_e, gD_n, gD_t, gDs_n, gDs_c, frz_e, mov_e, movO_e, forE_e, iLst_e, iTp_e, iRng_e, one1_c, two2_c, iZp_e, lcE_e, lc2E_e, wip_n, wip_c, noOwn_n, noOwn_c, noO_no, noO_val, fnc_e, ini_e, met_e, fld_e, slE_e, prK_e, prt_e, prN_e, dic1_e, appK_e, app_e, extK_e, ext_e, stK_e, drpA_e, drpK_e, addD_int, addD_tup, addD_lst, subD_int, mulD_l, mulD_r, modD_int, divD_int, intD_int, intD_bl, ltD_int, leD_int, eqD_int, eqD_bl, lenD_lst, lenD_tup, lenD_scr, tupD_lst, listD_lst, listD_tup, revL_lst, isBool_bl, max2_int, isBD_bl, revT_tup, iEnum_e, iItm_e, iSq_e, isC_i, isLst_l, addI_int, subI_int, iZm_e, seqK_t, seqK_l, dcE_e, getD_l, getD_t, getD_s, rngL_n, rngL_i, rngL_2, sumL_ints, sumT_tup, sumT_lst, allL_bls, anyL_bls, lcT_t, lcT_f, set_0, set_s, szL_le, szL_lt, Option.bind_some, Option.map_some, List.map_cons, List.map_nil, List.length_cons, List.length_nil, List.length_map, List.length_range, List.getElem?_cons_zero, List.getElem?_cons_succ, List.getElem?_map, List.replicate_succ, List.replicate_zero, List.cons_append, List.nil_append, if_true, if_false, ite_true, ite_false, Bool.and_true, Bool.true_and, Bool.and_self, and_true, true_and, and_self, decide_true, decide_false, Bool.not_true, Bool.not_false, eq_self, Int.toNat_natCast, Int.toNat_zero, Nat.reduceAdd, Nat.reduceSub, Nat.reduceLeDiff, Nat.reduceMul, Nat.reduceEqDiff, Int.reduceToNat, Nat.zero_add, Nat.reduceLT, Int.reduceLT, Int.reduceLE, Int.reduceEq, Int.reduceNe, Int.reduceMul, Int.reduceAdd, Int.reducePow, Bool.false_eq_true, reduceCtorEq, not_true_eq_false, not_false_eq_true, ne_eq, Option.getD_some, if_pos, List.length_append, List.length_replicate, msI, maI, msT, maT, msP, maR, hpre, sp_names, iZn_e, hz]
  generalize hlp : loop _ _ _ _ = o
  obtain ⟨e, rfl, s4, s5, rfl⟩ := loop_p hlp (fun l env => ∃ s4 s5, env = [.val (spcD p (ws.map sS)), .val (iD r.1), .val (.int r.2), .own (.lst (((preF r ++ nmF l).map Fc.txt).map txD)), s4, s5])
    ⟨.no, .no, by simp [nmF]⟩ (by
      rintro l q e hq hlt ⟨s4, s5, rfl⟩
      obtain ⟨hq1, hq2⟩ := List.of_mem_zip hq
      have he := hk q.2 hq2
      have hwq := hw q.1 hq1
      have hlen : (preF r ++ nmF l).length ≤ 100 := by
        have h1 := nmF_len l
        have h2 : l.length < (ws.zip r.1).length := hlt
        rw [List.length_zip] at h2
        rw [List.length_append]
        unfold preF
        split <;> simp <;> omega
      rw [List.length_append] at hlen
      rw [nmF_snoc]
      by_cases h0 : q.2 = 0
      · rw [if_pos h0, List.append_nil]
        refine stp (by simp_arith [h0]; rfl) ?_
        exact ⟨_, _, rfl⟩
      · rw [if_neg h0]
        by_cases h1 : q.2 = 1
        · refine stp (by simp_arith [h1]; rfl) ?_
          refine ⟨.val (txD q.1), .val (.int 1), ?_⟩
          rw [h1]
          simp [Fc.txt]
        · have h1' : q.2 = 1 ↔ False := iff_false_intro h1
          have h2' : (1 < q.2) ↔ True := iff_true_intro (by omega)
          have sd := str_dg (c := q.2) ⟨by omega, by omega⟩
          have a1 := addD_tx (a := q.1) (b := [94]) (by simp; omega)
          have a2 := addD_tx (a := q.1 ++ [94]) (b := [48 + q.2.toNat]) (by simp; omega)
          refine stp (by simp_arith [h1', h2', up_tx, a1, sd, a2]; rfl) ?_
          refine ⟨.val (txD q.1), .val (.int q.2), ?_⟩
          have hx : q.2.toNat ≠ 1 := by omega
          simp [Fc.txt, hx])
  have hne := rowF_ne (ws := ws) (r := r) hl
  have hrow : preF r ++ nmF (ws.zip r.1) = rowF ws r := rfl
  rw [hrow]
  have hsp := toTm_all hne
  have hj : joinD (txD [42]) (.lst (((rowF ws r).map Fc.txt).map txD)) = some (txD (Tm.tx (tmR ws r))) := by
    rw [← hsp, List.map_cons]
    have hb : ∀ x ∈ (rowF ws r).map Fc.txt, x.length ≤ 14 := fun x hx => by
      obtain ⟨f, hf, rfl⟩ := List.mem_map.mp hx
      rcases List.mem_append.mp hf with hf | hf
      · split at hf
        · rw [List.mem_singleton.mp hf]; simp [Fc.txt]
        · cases hf
      · exact nmF_tx _ (fun q hq => hw q.1 (List.of_mem_zip hq).1) f hf
    have hn : (rowF ws r).length ≤ 20 := by
      have h1 := nmF_len (ws.zip r.1)
      rw [List.length_zip] at h1
      unfold rowF
      rw [List.length_append]
      split <;> simp <;> omega
    have hs := len_sum 14 _ hb
    rw [← hsp, List.map_cons] at hs
    have hn2 : ((toTm (rowF ws r)).1 :: (toTm (rowF ws r)).2).length ≤ 20 := by rw [hsp]; exact hn
    have hn3 : (toTm (rowF ws r)).2.length + 1 ≤ 20 := by simpa using hn2
    rw [joinD_tx (by
      have e : (sS [42]).length = 1 := rfl
      rw [e, List.length_map, List.length_cons, List.length_map]
      rw [List.length_cons, List.length_map] at hs
      omega), gl_star]
    rfl
  simp_arith [st_tx, hj]

theorem star_len : ∀ l : List Fc, (∀ f ∈ l, f.txt.length ≤ 14) → (starL l).length ≤ 15 * l.length
  | [], _ => by simp [starL]
  | f :: l, h => by
    have ih := star_len l fun g hg => h g (List.mem_cons_of_mem _ hg)
    have hf := h f List.mem_cons_self
    simp only [starL, List.length_cons, List.length_append]
    omega
theorem tm_len {ws : List (List Nat)} (hwl : ws.length ≤ 10) (hw : ∀ w ∈ ws, w.length ≤ 12) {r : List Int × Int} (hl : ws.length = r.1.length) : (Tm.tx (tmR ws r)).length ≤ 400 := by
  have hb : ∀ f ∈ rowF ws r, f.txt.length ≤ 14 := fun f hf => by
    rcases List.mem_append.mp hf with hf | hf
    · split at hf
      · rw [List.mem_singleton.mp hf]; simp [Fc.txt]
      · cases hf
    · exact nmF_tx _ (fun q hq => hw q.1 (List.of_mem_zip hq).1) f hf
  have hn : (rowF ws r).length ≤ 20 := by
    have h1 := nmF_len (ws.zip r.1)
    rw [List.length_zip] at h1
    unfold rowF
    rw [List.length_append]
    split <;> simp <;> omega
  have hsp := toTm_all (rowF_ne (ws := ws) (r := r) hl)
  rw [← hsp] at hb hn
  have h1 := hb _ List.mem_cons_self
  have h2 := star_len _ fun f hf => hb f (List.mem_cons_of_mem _ hf)
  rw [List.length_cons] at hn
  show ((toTm (rowF ws r)).1.txt ++ starL (toTm (rowF ws r)).2).length ≤ 400
  rw [List.length_append]
  omega
theorem write_pol_eq {p : Nat} {ws : List (List Nat)} {ns : List Str} (hp9 : p ≤ 9) (hws : ns = ws.map sS) (hwl : ws.length ≤ 10) (hw : ∀ w ∈ ws, w.length ≤ 12) {f : Poly} (hf : Can p ns.length f) (hfl : f.length ≤ 100) : F_write_polynomial [spcD p ns, pD f] = some (txD (polT ws f)) := by
  have hnl : ns.length = ws.length := by rw [hws, List.length_map]
  have ht : ∀ r ∈ f, F_write_term [spcD p ns, iD r.1, .int r.2] = some (txD (Tm.tx (tmR ws r))) := fun r hr => by
    have h1 := hf.1 r hr
    exact write_term_eq hp9 hws hwl hw (by rw [h1.1.1, hnl]) (fun e he => h1.1.2 e he) h1.2
  by_cases h0 : f = []
  · subst h0
    have q : eqD (pD []) (.tup []) = some true := rfl
    unfold F_write_polynomial
    simp_arith [q]
    rfl
  · obtain ⟨r, g, hfg⟩ : ∃ r g, f = r :: g := by
      cases f with
      | nil => exact absurd rfl h0
      | cons r g => exact ⟨r, g, rfl⟩
    have q : eqD (pD f) (.tup []) = some false := by
      have h1 : (pD f).plain 60 = true := plain_pD (n := 57) f
      have h2 : (D.tup []).plain 60 = true := rfl
      simp only [eqD, h1, h2, Bool.and_self, if_true]
      rw [hfg]
      rfl
    have e1 : lcRun (gD (.t [(.n 2), (.n 3)])) yes (cal F_write_term (aC (var 0) (aC (var 2) (aC (var 3) aN)))) [.val (spcD p ns), .val (pD f), .no, .no] (f.map rowD) = some ((f.map fun r => Tm.tx (tmR ws r)).map txD) :=
      lcRun_m (enc := rowD) (enc' := txD) (fun r => Tm.tx (tmR ws r)) fun q hq => by
        have t := ht q hq
        simp_arith [t]
    have pl_sp : (D.str " + ") = txD [32, 43, 32] := rfl
    have hj : joinD (txD [32, 43, 32]) (.lst ((f.map fun r => Tm.tx (tmR ws r)).map txD)) = some (txD (polT ws f)) := by
      have hs := len_sum 400 (f.map fun r => Tm.tx (tmR ws r)) fun x hx => by
        obtain ⟨q, hq, rfl⟩ := List.mem_map.mp hx
        exact tm_len hwl hw (by rw [(hf.1 q hq).1.1, hnl])
      rw [hfg] at hs hfl
      rw [hfg, List.map_cons, joinD_tx (by
        have e : (sS [32, 43, 32]).length = 3 := rfl
        rw [List.map_cons] at hs
        rw [e, List.length_map, List.length_cons, List.length_map]
        rw [List.length_cons, List.length_map] at hs
        rw [List.length_cons] at hfl
        omega)]
      show some (txD (Tm.tx (tmR ws r) ++ gl [32, 43, 32] (g.map fun r => Tm.tx (tmR ws r)))) = _
      have e : (g.map fun r => Tm.tx (tmR ws r)) = (g.map (tmR ws)).map Tm.tx := by rw [List.map_map]; rfl
      rw [e, gl_plus]
      rfl
    unfold F_write_polynomial
    simp_arith [q, e1, pl_sp, hj]

def expT (e : Int) : List Nat := if e = 0 ∨ e = 1 then [] else [94, 48 + e.toNat]
theorem exp_get {e : Int} (h : 0 ≤ e ∧ e ≤ 6) : getD (.lst [.str "", .str "", .str "^2", .str "^3", .str "^4", .str "^5", .str "^6"]) (.int e) = some (txD (expT e)) := by
  have : e = 0 ∨ e = 1 ∨ e = 2 ∨ e = 3 ∨ e = 4 ∨ e = 5 ∨ e = 6 := by omega
  rcases this with rfl | rfl | rfl | rfl | rfl | rfl | rfl <;> rfl
theorem nmF_txt : ∀ (l : List (List Nat × Int)), (∀ q ∈ l, 0 ≤ q.2) → (nmF l).map Fc.txt = (l.filter fun q => decide (0 < q.2)).map fun q => q.1 ++ expT q.2
  | [], _ => rfl
  | q :: l, h => by
    have ih := nmF_txt l fun y hy => h y (List.mem_cons_of_mem _ hy)
    have hq := h q List.mem_cons_self
    unfold nmF
    by_cases h0 : q.2 = 0
    · rw [if_pos h0, ih, List.filter_cons_of_neg (by simp [h0])]
    · rw [if_neg h0, List.map_cons, ih, List.filter_cons_of_pos (by simp; omega), List.map_cons]
      congr 1
      unfold Fc.txt expT
      by_cases h1 : q.2 = 1
      · simp [h1]
      · have h2 : q.2.toNat ≠ 1 := by omega
        simp [h1, h2, h0]

theorem rng_filter {α : Type} {a : α} (l : List α) (t : α → Bool) : ((List.range l.length).filter fun k => t (l.getD k a)).map (fun k => l.getD k a) = l.filter t := by
  have rm : (List.range l.length).map (fun k => l.getD k a) = l := by
    apply List.ext_getElem
    · simp
    · intro i h1 h2
      simp [List.getD, List.getElem?_eq_getElem h2]
  conv => rhs; rw [← rm]
  rw [List.filter_map]
  rfl
theorem zip_getD {ws : List (List Nat)} {k : List Int} (h : ws.length = k.length) (i : Nat) : (ws.zip k).getD i ([], 0) = (ws.getD i [], k.getD i 0) := by
  by_cases hi : i < ws.length
  · have h2 : i < k.length := by omega
    have h3 : i < (ws.zip k).length := by rw [List.length_zip]; omega
    simp only [List.getD]
    rw [List.getElem?_eq_getElem h3, List.getElem?_eq_getElem hi, List.getElem?_eq_getElem h2]
    simp
  · have h2 : ¬ i < k.length := by omega
    have h3 : ¬ i < (ws.zip k).length := by rw [List.length_zip]; omega
    simp [List.getD, List.getElem?_eq_none (Nat.le_of_not_lt hi), List.getElem?_eq_none (Nat.le_of_not_lt h2), List.getElem?_eq_none (Nat.le_of_not_lt h3)]
theorem rng_parts {ws : List (List Nat)} {k : List Int} (h : ws.length = k.length) (hk : ∀ e ∈ k, 0 ≤ e) : ((List.range ws.length).filter fun i => decide (0 < k.getD i 0)).map (fun i => ws.getD i [] ++ expT (k.getD i 0)) = (nmF (ws.zip k)).map Fc.txt := by
  rw [nmF_txt _ fun q hq => hk q.2 (List.of_mem_zip hq).2]
  have hl : (ws.zip k).length = ws.length := by rw [List.length_zip]; omega
  rw [← rng_filter (a := ([], 0)) (ws.zip k), hl, List.map_map]
  simp only [zip_getD h]
  rfl
theorem nmF_all : ∀ (ws : List (List Nat)) (k : List Int), (k.all fun e => decide (e = 0)) = true → nmF (ws.zip k) = []
  | [], k, _ => by simp [nmF]
  | w :: ws, [], _ => by simp [nmF]
  | w :: ws, e :: k, h => by
    rw [List.all_cons, Bool.and_eq_true] at h
    have ih := nmF_all ws k h.2
    have he : e = 0 := by simpa using h.1
    rw [List.zip_cons_cons]
    unfold nmF
    rw [if_pos he, ih]
theorem lwritten_eq {p : Nat} {ws : List (List Nat)} {ns : List Str} (hp9 : p ≤ 7) (hws : ns = ws.map sS) (hwl : ws.length ≤ 10) (hw : ∀ w ∈ ws, w.length ≤ 12) {f : Poly} (hf : Can p ns.length f) (hfl : f.length ≤ 100) : F__law_written [.lst (ns.map .str), pD f] = some (txD (polT ws f)) := by
  have hnl : ns.length = ws.length := by rw [hws, List.length_map]
  have pl_sp : (D.str " + ") = txD [32, 43, 32] := rfl
  unfold F__law_written
  simp_arith []
  generalize hlp : loop _ _ _ _ = o
  obtain ⟨e, rfl, s3, s4, s5, s6, h6, rfl⟩ := loop_p hlp (fun l env => ∃ s3 s4 s5 s6, noO (some s6) = true ∧ env = [.val (.lst (ns.map .str)), .val (pD f), .own (.lst ((l.map fun r => Tm.tx (tmR ws r)).map txD)), s3, s4, s5, s6])
    ⟨.no, .no, .no, .no, rfl, rfl⟩ (by
      rintro l r e hr hlt ⟨s3, s4, s5, s6, h6, rfl⟩
      have h1 := hf.1 r hr
      have hrl : ws.length = r.1.length := by rw [h1.1.1, hnl]
      have hk : ∀ e ∈ r.1, 0 ≤ e ∧ e < (p : Int) := fun e he => h1.1.2 e he
      have e1 : ∀ z5, lcRun (gD (.n 6)) (cmp (flip ltD) (op2 getD (var 3) (var 6)) (cst (.int 0))) (op2 addD (op2 getD (var 0) (var 6)) (op2 getD (lstE (aC (cst (.str "")) (aC (cst (.str "")) (aC (cst (.str "^2")) (aC (cst (.str "^3")) (aC (cst (.str "^4")) (aC (cst (.str "^5")) (aC (cst (.str "^6")) aN)))))))) (op2 getD (var 3) (var 6)))) [.val (.lst (ns.map .str)), .val (pD f), .own (.lst ((l.map fun r => Tm.tx (tmR ws r)).map txD)), .val (iD r.1), .val (.int r.2), z5, .no] ((List.range ns.length).map fun (k : Nat) => D.int (k : Int)) = some (((nmF (ws.zip r.1)).map Fc.txt).map txD) := fun z5 => by
        rw [← rng_parts hrl (fun e he => (hk e he).1), hnl]
        refine lcRun_f (enc' := txD) (fun i => decide (0 < r.1.getD i 0)) (fun i => ws.getD i [] ++ expT (r.1.getD i 0)) fun i hi => ?_
        have hi1 : i < ws.length := List.mem_range.mp hi
        have hi2 : i < r.1.length := by omega
        have g1 : r.1[i]? = some (r.1.getD i 0) := by simp [List.getD, List.getElem?_eq_getElem hi2]
        have g2 : ws[i]? = some (ws.getD i []) := by simp [List.getD, List.getElem?_eq_getElem hi1]
        have hm : r.1.getD i 0 ∈ r.1 := List.mem_of_getElem? g1
        have hm2 : ws.getD i [] ∈ ws := List.mem_of_getElem? g2
        have hkk := hk _ hm
        have hww := hw _ hm2
        have xg := exp_get (e := r.1.getD i 0) ⟨hkk.1, by omega⟩
        generalize r.1.getD i 0 = x at g1 hkk xg ⊢
        generalize ws.getD i [] = w at g2 hww ⊢
        have q1 : getD (iD r.1) (nD i) = some (.int x) := by
          rw [getD_t (by omega)]; simp [g1]
        have q2 : getD (.lst (ns.map .str)) (nD i) = some (txD w) := by
          rw [getD_l (by omega), hws]; simp [g2]; rfl
        have xl : (expT x).length ≤ 2 := by unfold expT; split <;> simp
        have a1 := addD_tx (a := w) (b := expT x) (by omega)
        by_cases h0 : 0 < x
        · have h0' : 0 < x ↔ True := iff_true_intro h0
          rw [decide_eq_true h0]
          simp_arith [q1, q2, xg, a1, h0']
        · have h0' : 0 < x ↔ False := iff_false_intro h0
          rw [decide_eq_false h0]
          simp_arith [q1, q2, xg, a1, h0']
      have hpt : (((preF r ++ nmF (ws.zip r.1)).map Fc.txt)) = (rowF ws r).map Fc.txt := rfl
      have hst := str_dg (c := r.2) ⟨by omega, by omega⟩
      have hnz := nmF_len (ws.zip r.1)
      rw [List.length_zip] at hnz
      have hj : joinD (txD [42]) (.lst (((rowF ws r).map Fc.txt).map txD)) = some (txD (Tm.tx (tmR ws r))) := by
        have hsp := toTm_all (rowF_ne (ws := ws) (r := r) hrl)
        rw [← hsp, List.map_cons]
        have hb : ∀ x ∈ (rowF ws r).map Fc.txt, x.length ≤ 14 := fun x hx => by
          obtain ⟨f, hf, rfl⟩ := List.mem_map.mp hx
          rcases List.mem_append.mp hf with hf | hf
          · split at hf
            · rw [List.mem_singleton.mp hf]; simp [Fc.txt]
            · cases hf
          · exact nmF_tx _ (fun q hq => hw q.1 (List.of_mem_zip hq).1) f hf
        have hn : (rowF ws r).length ≤ 20 := by
          have h1 := nmF_len (ws.zip r.1)
          rw [List.length_zip] at h1
          unfold rowF
          rw [List.length_append]
          split <;> simp <;> omega
        have hs := len_sum 14 _ hb
        rw [← hsp, List.map_cons] at hs
        have hn2 : ((toTm (rowF ws r)).1 :: (toTm (rowF ws r)).2).length ≤ 20 := by rw [hsp]; exact hn
        have hn3 : (toTm (rowF ws r)).2.length + 1 ≤ 20 := by simpa using hn2
        rw [joinD_tx (by
          have e : (sS [42]).length = 1 := rfl
          rw [e, List.length_map, List.length_cons, List.length_map]
          rw [List.length_cons, List.length_map] at hs
          omega), gl_star]
        rfl
      have hif : ∀ z6, (ifS (orT (cmp (neg eqD) (var 4) (cst (.int 1))) (cmp eqD (cal (f1 lenD) (aC (var 5) aN)) (cst (.int 0)))) (setE 5 (op2 addL (lstE (aC (op1 strI (var 4)) aN)) (var 5))) skip) [.val (.lst (ns.map .str)), .val (pD f), .own (.lst ((l.map fun r => Tm.tx (tmR ws r)).map txD)), .val (iD r.1), .val (.int r.2), .val (.lst (((nmF (ws.zip r.1)).map Fc.txt).map txD)), z6] = some (.nx [.val (.lst (ns.map .str)), .val (pD f), .own (.lst ((l.map fun r => Tm.tx (tmR ws r)).map txD)), .val (iD r.1), .val (.int r.2), .val (.lst (((rowF ws r).map Fc.txt).map txD)), z6]) := by
        intro z6
        have hall : ((nmF (ws.zip r.1)).length : Int) = 0 ↔ (r.1.all fun e => decide (e = 0)) = true := by
          constructor
          · intro h
            exact nmF_nil ws r.1 hrl (List.eq_nil_of_length_eq_zero (by omega))
          · intro h
            rw [nmF_all ws r.1 h]; rfl
        have hadd : ∀ c, addL (.lst [txD c]) (.lst (((nmF (ws.zip r.1)).map Fc.txt).map txD)) = some (.lst (txD c :: ((nmF (ws.zip r.1)).map Fc.txt).map txD)) := fun c => by
          simp only [addL]
          rw [if_pos (by unfold szL; simp; omega)]
          rfl
        unfold rowF
        by_cases h1 : r.2 = 1
        · cases hq : (r.1.all fun e => decide (e = 0)) with
          | true =>
            rw [hq] at hall
            have h0 : ((nmF (ws.zip r.1)).length : Int) = 0 ↔ True := ⟨fun _ => trivial, fun _ => hall.mpr rfl⟩
            rw [if_pos (.inr rfl)]
            rw [h1] at hst ⊢
            simp_arith [neg_e, h0, hst, hadd]
            rfl
          | false =>
            rw [hq] at hall
            have h0 : ((nmF (ws.zip r.1)).length : Int) = 0 ↔ False := ⟨fun z => (by cases hall.mp z), False.elim⟩
            rw [if_neg (by simp [h1])]
            simp_arith [h1, neg_e, h0]
        · have h1' : r.2 = 1 ↔ False := iff_false_intro h1
          rw [if_pos (.inl h1)]
          simp_arith [h1', neg_e, hst, hadd]
          rfl
      refine stp (by simp -implicitDefEqProofs (disch := first | omega | (simp only [List.length_map, List.length_cons, List.length_nil, List.length_append, List.length_range, List.length_replicate]; omega)) only [sq_e, sqK_nx, sqK_ret, sqK_bk, sqK_ct, skip_e, setE_e, newE_e, rt_e, brk_e, cnt_e, ifK_t, ifK_f, ifX_t, ifX_f, ifT_t, ifT_f, fncK_ret, fncK_nx, ctK_nx, ctK_ct, ctK_ret, lcK_e, lstK_e, tupK_e, tupK_f, tupK_cat, ftupD_lst, ftupE_e, lenD_f, getD_f, addD_ff, blK_e, ovK_e, vaK_e, ife_e, var_e, ovar_e, cst_e, op1_e, op2_e, op3_e, aN_e, aC_e, tupE_e, lstE_e, cal_e, f1_e, cmp_e, flip_e, neg_e, chn_e, boo_e, tes_e, ff_e, tt_e, andT_e, orT_e, notT_e, fX_e, tX_e, andV_e, orV_e, notV_e, isN_e, yes_e, asg_e, gD_n, gD_t, gDs_n, gDs_c, frz_e, mov_e, movO_e, forE_e, iLst_e, iTp_e, iRng_e, one1_c, two2_c, iZp_e, lcE_e, lc2E_e, wip_n, wip_c, noOwn_n, noOwn_c, noO_no, noO_val, fnc_e, ini_e, met_e, fld_e, slE_e, prK_e, prt_e, prN_e, dic1_e, appK_e, app_e, extK_e, ext_e, stK_e, drpA_e, drpK_e, addD_int, addD_tup, addD_lst, subD_int, mulD_l, mulD_r, modD_int, divD_int, intD_int, intD_bl, ltD_int, leD_int, eqD_int, eqD_bl, lenD_lst, lenD_tup, lenD_scr, tupD_lst, listD_lst, listD_tup, revL_lst, isBool_bl, max2_int, isBD_bl, revT_tup, iEnum_e, iItm_e, iSq_e, isC_i, isLst_l, addI_int, subI_int, iZm_e, seqK_t, seqK_l, dcE_e, getD_l, getD_t, getD_s, rngL_n, rngL_i, rngL_2, sumL_ints, sumT_tup, sumT_lst, allL_bls, anyL_bls, lcT_t, lcT_f, set_0, set_s, szL_le, szL_lt, Option.bind_some, Option.map_some, List.map_cons, List.map_nil, List.length_cons, List.length_nil, List.length_map, List.length_range, List.getElem?_cons_zero, List.getElem?_cons_succ, List.getElem?_map, List.replicate_succ, List.replicate_zero, List.cons_append, List.nil_append, if_true, if_false, ite_true, ite_false, Bool.and_true, Bool.true_and, Bool.and_self, and_true, true_and, and_self, decide_true, decide_false, Bool.not_true, Bool.not_false, eq_self, Int.toNat_natCast, Int.toNat_zero, Nat.reduceAdd, Nat.reduceSub, Nat.reduceLeDiff, Nat.reduceMul, Nat.reduceEqDiff, Int.reduceToNat, Nat.zero_add, Nat.reduceLT, Int.reduceLT, Int.reduceLE, Int.reduceEq, Int.reduceNe, Int.reduceMul, Int.reduceAdd, Int.reducePow, Bool.false_eq_true, reduceCtorEq, not_true_eq_false, not_false_eq_true, ne_eq, Option.getD_some, if_pos, List.length_append, List.length_replicate, msI, maI, msT, maT, msP, maR, h6, e1, hif, st_tx, hj]; rfl) ?_
      exact ⟨_, _, _, _, h6, by rw [List.map_append, List.map_append]; rfl⟩)
  by_cases h0 : f = []
  · subst h0
    simp_arith []
    rfl
  · obtain ⟨r, g, hfg⟩ : ∃ r g, f = r :: g := by
      cases f with
      | nil => exact absurd rfl h0
      | cons r g => exact ⟨r, g, rfl⟩
    have hj : joinD (txD [32, 43, 32]) (.lst ((f.map fun r => Tm.tx (tmR ws r)).map txD)) = some (txD (polT ws f)) := by
      have hs := len_sum 400 (f.map fun r => Tm.tx (tmR ws r)) fun x hx => by
        obtain ⟨q, hq, rfl⟩ := List.mem_map.mp hx
        exact tm_len hwl hw (by rw [(hf.1 q hq).1.1, hnl])
      rw [hfg] at hs hfl
      rw [hfg, List.map_cons, joinD_tx (by
        have e : (sS [32, 43, 32]).length = 3 := rfl
        rw [List.map_cons] at hs
        rw [e, List.length_map, List.length_cons, List.length_map]
        rw [List.length_cons, List.length_map] at hs
        rw [List.length_cons] at hfl
        omega)]
      show some (txD (Tm.tx (tmR ws r) ++ gl [32, 43, 32] (g.map fun r => Tm.tx (tmR ws r)))) = _
      have e : (g.map fun r => Tm.tx (tmR ws r)) = (g.map (tmR ws)).map Tm.tx := by rw [List.map_map]; rfl
      rw [e, gl_plus]
      rfl
    have hl0 : (f.length : Int) = 0 ↔ False := iff_false_intro (by rw [hfg]; simp; omega)
    simp_arith [pl_sp, hl0, hj]

theorem fc_chs {ns : List Str} {f : Fc} (h : f.ok ns) : ∀ c ∈ f.txt, Ch c := fun c hc => by
  cases f with
  | num k =>
    have h : k ≤ 9 := h
    rw [List.mem_singleton.mp (show c ∈ [48 + k] from hc)]
    show 48 + k < 128 ∧ 48 + k ≠ 61 ∧ 48 + k ≠ 10
    omega
  | nam w x =>
    obtain ⟨⟨_, _, hw, _⟩, _, hx⟩ := h
    unfold Fc.txt at hc
    simp only at hc
    split at hc
    · exact ld_ch c (hw c hc)
    · rcases List.mem_append.mp hc with hc | hc
      · exact ld_ch c (hw c hc)
      · simp only [List.mem_cons, List.not_mem_nil, or_false] at hc
        show c < 128 ∧ c ≠ 61 ∧ c ≠ 10
        omega
theorem star_chs {ns : List Str} : ∀ l : List Fc, (∀ f ∈ l, f.ok ns) → ∀ c ∈ starL l, Ch c
  | [], _, _, hc => by cases hc
  | f :: l, h, c, hc => by
    rcases List.mem_cons.mp (show c ∈ 42 :: (f.txt ++ starL l) from hc) with rfl | hc
    · decide
    · rcases List.mem_append.mp hc with hc | hc
      · exact fc_chs (h f List.mem_cons_self) c hc
      · exact star_chs l (fun g hg => h g (List.mem_cons_of_mem _ hg)) c hc
theorem tm_chs {ns : List Str} {m : Tm} (h : Tm.ok ns m) : ∀ c ∈ Tm.tx m, Ch c := fun c hc => by
  rcases List.mem_append.mp hc with hc | hc
  · exact fc_chs h.1 c hc
  · exact star_chs _ h.2 c hc
theorem plus_chs {ns : List Str} : ∀ l : List Tm, (∀ m ∈ l, Tm.ok ns m) → ∀ c ∈ plusL l, Ch c
  | [], _, _, hc => by cases hc
  | m :: l, h, c, hc => by
    have hc : c ∈ 32 :: 43 :: 32 :: (Tm.tx m ++ plusL l) := hc
    simp only [List.mem_cons, List.mem_append] at hc
    rcases hc with rfl | rfl | rfl | hc | hc
    · decide
    · decide
    · decide
    · exact tm_chs (h m List.mem_cons_self) c hc
    · exact plus_chs l (fun g hg => h g (List.mem_cons_of_mem _ hg)) c hc
theorem plus_lenC : ∀ l : List Tm, (∀ m ∈ l, (Tm.tx m).length ≤ 400) → (plusL l).length ≤ 403 * l.length
  | [], _ => by simp [plusL]
  | m :: l, h => by
    have ih := plus_lenC l fun g hg => h g (List.mem_cons_of_mem _ hg)
    have h0 := h m List.mem_cons_self
    simp only [plusL, List.length_cons, List.length_append]
    omega
theorem pol_goodC {p : Nat} {ws : List (List Nat)} {ns : List Str} (hp9 : p ≤ 9) (hws : ns = ws.map sS) (hwl : ws.length ≤ 10) (hw : ∀ w ∈ ws, NmOk w) {f : Poly} (hf : Can p ns.length f) (hfl : f.length ≤ 100) : (polT ws f).length ≤ 100000 ∧ ∀ x ∈ polT ws f, Ch x := by
  have hnl : ns.length = ws.length := by rw [hws, List.length_map]
  have ht : ∀ r ∈ f, Tm.ok ns (tmR ws r) ∧ (Tm.tx (tmR ws r)).length ≤ 400 := fun r hr => by
    have h1 := hf.1 r hr
    have hl : ws.length = r.1.length := by rw [h1.1.1, hnl]
    have hall := rowF_ok (ns := ns) hp9 (fun w hm => ⟨hw w hm, by rw [hws]; exact List.mem_map.mpr ⟨w, hm, rfl⟩⟩) (fun e he => h1.1.2 e he) h1.2 (r := r)
    have e := toTm_all (rowF_ne hl)
    rw [← e] at hall
    exact ⟨⟨(hall _ List.mem_cons_self).1, fun g hg => (hall g (List.mem_cons_of_mem _ hg)).1⟩, tm_len hwl (fun w hm => (hw w hm).2.2.2) hl⟩
  cases f with
  | nil => exact ⟨by simp [polT], fun x hx => by
      rw [List.mem_singleton.mp (show x ∈ [48] from hx)]; decide⟩
  | cons r g =>
    have h0 := ht r List.mem_cons_self
    have hg : ∀ m ∈ g.map (tmR ws), Tm.ok ns m ∧ (Tm.tx m).length ≤ 400 := fun m hm => by
      obtain ⟨q, hq, rfl⟩ := List.mem_map.mp hm
      exact ht q (List.mem_cons_of_mem _ hq)
    constructor
    · show (Tm.tx (tmR ws r) ++ plusL (g.map (tmR ws))).length ≤ 100000
      have h2 := plus_lenC (g.map (tmR ws)) fun m hm => (hg m hm).2
      rw [List.length_append]
      rw [List.length_map] at h2
      rw [List.length_cons] at hfl
      omega
    · intro x hx
      rcases List.mem_append.mp (show x ∈ Tm.tx (tmR ws r) ++ plusL (g.map (tmR ws)) from hx) with hx | hx
      · exact tm_chs h0.1 x hx
      · exact plus_chs _ (fun m hm => (hg m hm).1) x hx

theorem reader_at {sp ln : D} {T : List Nat} (i e : Nat) : isIns "Reader" F_Reader___init__ [sp, txD T, ln, nD i, nD e] = some (rdD sp T ln i e) := by
  have n1 : ("space" : Str) ≠ "text" := by decide
  have n2 : ("space" : Str) ≠ "line" := by decide
  have n3 : ("space" : Str) ≠ "at" := by decide
  have n4 : ("space" : Str) ≠ "end" := by decide
  have n5 : ("text" : Str) ≠ "line" := by decide
  have n6 : ("text" : Str) ≠ "at" := by decide
  have n7 : ("text" : Str) ≠ "end" := by decide
  have n8 : ("line" : Str) ≠ "at" := by decide
  have n9 : ("line" : Str) ≠ "end" := by decide
  have n10 : ("at" : Str) ≠ "end" := by decide
  have h : F_Reader___init__ [sp, txD T, ln, nD i, nD e] = some (rdD sp T ln i e) := by
    unfold F_Reader___init__
    simp_arith [setF_e, setFK_e, putF_n, putF_c n1, putF_c n2, putF_c n3, putF_c n4, putF_c n5, putF_c n6, putF_c n7, putF_c n8, putF_c n9, putF_c n10, iniK_ok]
    rfl
  simp only [isIns, h, Option.bind_some]; rfl
theorem nMet_rd {sp ln P s' : D} {T : List Nat} {i e : Nat} {a : Ex} {env : DEnv} (ha : a env = some (rdD sp T ln i e)) (hw : F_Reader_whole [rdD sp T ln i e] = some (.tup [P, s'])) : nMet "Reader" "whole" F_Reader_whole a env = some P := by
  unfold nMet
  rw [ha, Option.bind_some]
  simp only [rdD] at hw ⊢
  rw [if_pos ⟨trivial, by decide⟩, hw]
theorem len_tx {s : List Nat} (h : s.length ≤ 1000000) : lenD (txD s) = some (nD s.length) := by
  simp [lenD, txD, Str.length]
  unfold szL
  omega
theorem idx_app {c : Nat} : ∀ {a b : List Nat}, c ∉ a → (a ++ c :: b).idxOf c = a.length
  | [], b, _ => by simp
  | x :: a, b, h => by
    have h1 : x ≠ c := fun e => h (e ▸ List.mem_cons_self)
    have h2 : c ∉ a := fun e => h (List.mem_cons_of_mem _ e)
    rw [List.cons_append, List.idxOf_cons, idx_app h2]
    have hb : (x == c) = false := by simpa using h1
    rw [hb]; rfl
theorem inx_tx {c : Nat} {a b : List Nat} (h : c ∉ a) : inxD (txD (a ++ c :: b)) (txD [c]) = some (nD a.length) := by
  show (if c ∈ (a ++ c :: b).toArray.toList then some (D.int ((a ++ c :: b).toArray.toList.idxOf c : Nat)) else none) = _
  rw [if_pos (by simp)]
  simp only [List.toList_toArray]
  rw [idx_app h]
section
variable {p : Nat} {ns : List Str}
theorem eqn_one {s : List Nat} {f : Poly} {ln : D} (hR : Rd (spcD p ns) F_Reader_terms s (pD f) [94, 42, 43, 45]) (hl : s.length ≤ 100000) (hc : ∀ c ∈ s, Ch c) : F_read_equation [spcD p ns, txD s, ln] = some (pD f) := by
  have e61 : (D.str "=") = txD [61] := rfl
  have hn : inS (txD [61]) (txD s) = some false := by
    rw [tx_in, decide_eq_false fun z => (hc 61 z).2.1 rfl]
  have hlen := len_tx (s := s) (by omega)
  have hm := reader_at (sp := spcD p ns) (ln := ln) (T := s) 0 s.length
  obtain ⟨s', hw⟩ := rd_whole (ln := ln) (T := s) (e := s.length) (b := s) hR ⟨hl, fun c h => (hc c h).1, Nat.le_refl _⟩ (by rw [List.take_length]; exact List.suffix_refl _) rfl
  rw [show rs (spcD p ns) ln s s.length s = rdD (spcD p ns) s ln 0 s.length from by unfold rs; rw [Nat.sub_self]] at hw
  have hm : isIns "Reader" F_Reader___init__ [spcD p ns, txD s, ln, .int 0, nD s.length] = some (rdD (spcD p ns) s ln 0 s.length) := hm
  have hN := nMet_rd (a := cal (isIns "Reader" F_Reader___init__) (aC (var 0) (aC (var 1) (aC (var 2) (aC (cst (.int 0)) (aC (cal (f1 lenD) (aC (var 1) aN)) aN)))))) (env := [.val (spcD p ns), .val (txD s), .val ln, .no, .no]) (by simp_arith [hlen, hm]) hw
  unfold F_read_equation
  simp_arith [e61, hn, neg_e, hN]
theorem eqn_two {s1 s2 : List Nat} {u1 u2 : Poly} {ln : D} (hp : 2 ≤ p ∧ p ≤ 1000) (hns : 1 ≤ ns.length) (hf1 : Can p ns.length u1) (hf2 : Can p ns.length u2) (hl1 : u1.length ≤ 1000) (hl2 : u2.length ≤ 1000) (hR1 : Rd (spcD p ns) F_Reader_terms s1 (pD u1) [94, 42, 43, 45]) (hR2 : Rd (spcD p ns) F_Reader_terms s2 (pD u2) [94, 42, 43, 45]) (h1 : s1.length ≤ 45000) (h2 : s2.length ≤ 45000) (hc1 : ∀ c ∈ s1, Ch c) (hc2 : ∀ c ∈ s2, Ch c) :
    F_read_equation [spcD p ns, txD (s1 ++ 61 :: s2), ln] = some (pD (subP p u1 u2)) := by
  have e61 : (D.str "=") = txD [61] := rfl
  have hn : inS (txD [61]) (txD (s1 ++ 61 :: s2)) = some true := by
    rw [tx_in, decide_eq_true (by simp)]
  have hix := inx_tx (c := 61) (a := s1) (b := s2) fun z => (hc1 61 z).2.1 rfl
  have hTl : (s1 ++ 61 :: s2).length = s1.length + 1 + s2.length := by simp; omega
  have hTs : ∀ c ∈ s1 ++ 61 :: s2, c < 128 := fun c hc => by
    simp only [List.mem_append, List.mem_cons] at hc
    rcases hc with hc | rfl | hc
    · exact (hc1 c hc).1
    · decide
    · exact (hc2 c hc).1
  have htk : (s1 ++ 61 :: s2).take s1.length = s1 := List.take_left
  obtain ⟨t1, hw1⟩ := rd_whole (ln := ln) (T := s1 ++ 61 :: s2) (e := s1.length) (b := s1) hR1 ⟨by omega, hTs, by omega⟩ (by rw [htk]; exact List.suffix_refl _) rfl
  obtain ⟨t2, hw2⟩ := rd_whole (ln := ln) (T := s1 ++ 61 :: s2) (e := (s1 ++ 61 :: s2).length) (b := s2) hR2 ⟨by omega, hTs, Nat.le_refl _⟩ (by rw [List.take_length]; exact ⟨s1 ++ [61], by simp⟩) rfl
  rw [show rs (spcD p ns) ln (s1 ++ 61 :: s2) s1.length s1 = rdD (spcD p ns) (s1 ++ 61 :: s2) ln 0 s1.length from by unfold rs; rw [Nat.sub_self]] at hw1
  rw [show rs (spcD p ns) ln (s1 ++ 61 :: s2) (s1 ++ 61 :: s2).length s2 = rdD (spcD p ns) (s1 ++ 61 :: s2) ln (s1.length + 1) (s1 ++ 61 :: s2).length from by unfold rs; rw [show (s1 ++ 61 :: s2).length - s2.length = s1.length + 1 by omega]] at hw2
  have hlen := len_tx (s := s1 ++ 61 :: s2) (by omega)
  have hmi := minus_eq (p := p) (ns := ns) hp hns hf1 hf2 hl1 hl2
  generalize s1 ++ 61 :: s2 = T at hn hix hw1 hw2 hlen ⊢
  have hm1 : isIns "Reader" F_Reader___init__ [spcD p ns, txD T, ln, .int 0, nD s1.length] = some (rdD (spcD p ns) T ln 0 s1.length) := reader_at 0 s1.length
  have hm2 : isIns "Reader" F_Reader___init__ [spcD p ns, txD T, ln, .int ((s1.length : Int) + 1), nD T.length] = some (rdD (spcD p ns) T ln (s1.length + 1) T.length) := reader_at (s1.length + 1) T.length
  have hN1 := nMet_rd (a := cal (isIns "Reader" F_Reader___init__) (aC (var 0) (aC (var 1) (aC (var 2) (aC (cst (.int 0)) (aC (var 3) aN)))))) (env := [.val (spcD p ns), .val (txD T), .val ln, .val (nD s1.length), .no]) (by simp_arith [hm1]) hw1
  have hN2 := nMet_rd (a := cal (isIns "Reader" F_Reader___init__) (aC (var 0) (aC (var 1) (aC (var 2) (aC (op2 addD (var 3) (cst (.int 1))) (aC (cal (f1 lenD) (aC (var 1) aN)) aN)))))) (env := [.val (spcD p ns), .val (txD T), .val ln, .val (nD s1.length), .val (pD u1)]) (by simp_arith [hlen, hm2]) hw2
  unfold F_read_equation
  simp_arith [e61, hn, neg_e, hix, hN1, hN2, hmi]
end

theorem cut_from {α : Type} {l : List α} {k : Nat} (h : k ≤ l.length) : cut l (some (k : Int)) none = l.drop k := by
  have h1 : six l.length 0 (some (k : Int)) = k := by
    show (if (k : Int) < 0 then ((k : Int) + (l.length : Int)).toNat else min (k : Int).toNat l.length) = k
    rw [if_neg (by omega)]; omega
  have h2 : six l.length l.length none = l.length := rfl
  unfold cut
  rw [h1, h2]
  exact List.take_of_length_le (by rw [List.length_drop]; omega)
theorem cut_upto {α : Type} {l : List α} {k : Nat} (h : k ≤ l.length) : cut l none (some (k : Int)) = l.take k := by
  have h1 : six l.length l.length (some (k : Int)) = k := by
    show (if (k : Int) < 0 then ((k : Int) + (l.length : Int)).toNat else min (k : Int).toNat l.length) = k
    rw [if_neg (by omega)]; omega
  have h2 : six l.length 0 none = 0 := rfl
  unfold cut
  rw [h1, h2]
  rfl
def jn (sep : List Nat) : List (List Nat) → List Nat
  | [] => []
  | x :: l => x ++ gl sep l
theorem spl_gl {c : Nat} : ∀ (x : List Nat) (l : List (List Nat)), c ∉ x → (∀ y ∈ l, c ∉ y) → splC c (x ++ gl [c] l) = x :: l
  | x, [], h, _ => by
    rw [show gl [c] [] = [] from rfl, List.append_nil]
    exact splC_free h
  | x, y :: l, h, h2 => by
    rw [show x ++ gl [c] (y :: l) = x ++ c :: (y ++ gl [c] l) from rfl, splC_app h, spl_gl y l (h2 y List.mem_cons_self) fun z hz => h2 z (List.mem_cons_of_mem _ hz)]
theorem spl_tx {c : Nat} {a : List Nat} (h : a.length ≤ 10000000) : splD (txD a) (txD [c]) = some (.lst ((splC c a).map txD)) := by
  have hl : (⟨a.toArray⟩ : Str).length + 2 ≤ szL := by
    show a.toArray.size + 2 ≤ szL
    unfold szL; simp; omega
  show (if (⟨a.toArray⟩ : Str).length + 2 ≤ szL then some (D.lst ((splC c a.toArray.toList).map fun w => .str ⟨w.toArray⟩)) else none) = _
  rw [if_pos hl]
  rfl
theorem gl_len {n : Nat} {c : Nat} : ∀ l : List (List Nat), (∀ x ∈ l, x.length ≤ n) → (gl [c] l).length ≤ (n + 1) * l.length
  | [], _ => by simp [gl]
  | x :: l, h => by
    have ih := gl_len (c := c) l fun y hy => h y (List.mem_cons_of_mem _ hy)
    have hx := h x List.mem_cons_self
    show ([c] ++ (x ++ gl [c] l)).length ≤ (n + 1) * (l.length + 1)
    rw [List.length_append, List.length_append, Nat.mul_add, List.length_singleton]
    omega
theorem jn_tx {c : Nat} {n m : Nat} {x : List Nat} {l : List (List Nat)} (hx : ∀ y ∈ x :: l, y.length ≤ n) (hl : l.length ≤ m) (hnm : (n + 1) * (m + 1) ≤ 1000000) : joinD (txD [c]) (.lst ((x :: l).map txD)) = some (txD (jn [c] (x :: l))) := by
  have hs := len_sum n (x :: l) hx
  have e : (sS [c]).length = 1 := rfl
  have h1 : (n + 1) * (l.length + 1) ≤ (n + 1) * (m + 1) := Nat.mul_le_mul (Nat.le_refl _) (by omega)
  have h2 : (n + 1) * (l.length + 1) = n * (l.length + 1) + (l.length + 1) := by rw [Nat.add_mul, Nat.one_mul]
  rw [List.length_cons] at hs
  exact joinD_tx (by rw [e, List.length_map, List.length_cons]; omega)
def NUM : List Nat := [110, 117, 109, 98, 101, 114, 115]
def UNK : List Nat := [117, 110, 107, 110, 111, 119, 110, 115]
def hd1 (p : Nat) : List Nat := NUM ++ 32 :: [48 + p]
def hd2 (ws : List (List Nat)) : List Nat := UNK ++ 32 :: jn [32] ws
def sysD (p : Nat) (ns : List Str) (fs : List Poly) : D := .ins "System" ["space", "equations"] [spcD p ns, .lst (fs.map pD)]
theorem sy_space {p : Nat} {ns fs} : attr ["System"] "space" (sysD p ns fs) = some (spcD p ns) := by
  simp only [attr, sysD]; rw [if_pos (by decide)]; rfl
theorem sy_equations {p : Nat} {ns fs} : attr ["System"] "equations" (sysD p ns fs) = some (.lst (fs.map pD)) := by
  simp only [attr, sysD]; rw [if_pos (by decide)]; rfl
theorem sy_made {p : Nat} {ns : List Str} {fs : List Poly} : isIns "System" F_System___init__ [spcD p ns, .lst (fs.map pD)] = some (sysD p ns fs) := by
  have n1 : ("space" : Str) ≠ "equations" := by decide
  have h : F_System___init__ [spcD p ns, .lst (fs.map pD)] = some (sysD p ns fs) := by
    unfold F_System___init__
    simp_arith [setF_e, setFK_e, putF_n, putF_c n1, iniK_ok]
    rfl
  simp only [isIns, h, Option.bind_some]; rfl
theorem isC_sy {p : Nat} {ns : List Str} {fs : List Poly} : isC "System" (sysD p ns fs) = some (.bl true) := rfl
theorem nm_32 {w : List Nat} (h : NmOk w) : 32 ∉ w := fun z => ld_n32 32 (h.2.2.1 32 z) rfl
theorem num_str {p : Nat} (h : PP p) : strI (nD p) = some (txD [48 + p]) := by rcases h with rfl | rfl | rfl | rfl <;> rfl
theorem num_int {p : Nat} (h : PP p) : intS (txD [48 + p]) = some (nD p) := by rcases h with rfl | rfl | rfl | rfl <;> rfl
theorem num_in {p : Nat} (h : PP p) : inTS (txD [48 + p]) (.tup [.str "2", .str "3", .str "5", .str "7"]) = some true := by rcases h with rfl | rfl | rfl | rfl <;> rfl
section
variable {p : Nat} {ns : List Str} {ws : List (List Nat)}
theorem hd2_spl (hw : ∀ w ∈ ws, NmOk w) (h0 : ws ≠ []) : splC 32 (hd2 ws) = UNK :: ws := by
  cases ws with
  | nil => exact absurd rfl h0
  | cons w ws =>
    show splC 32 (UNK ++ 32 :: (w ++ gl [32] ws)) = _
    rw [splC_app (by decide), spl_gl w ws (nm_32 (hw w List.mem_cons_self)) fun y hy => nm_32 (hw y (List.mem_cons_of_mem _ hy))]
theorem hd2_len (hw : ∀ w ∈ ws, NmOk w) (hl : ws.length ≤ 10) : (hd2 ws).length ≤ 200 := by
  have h1 : (jn [32] ws).length ≤ 13 * ws.length := by
    cases ws with
    | nil => simp [jn]
    | cons w ws =>
      have h1 := gl_len (n := 12) (c := 32) ws fun y hy => (hw y (List.mem_cons_of_mem _ hy)).2.2.2
      have h2 := (hw w List.mem_cons_self).2.2.2
      show (w ++ gl [32] ws).length ≤ _
      rw [List.length_append, List.length_cons]
      omega
  show (UNK ++ 32 :: jn [32] ws).length ≤ 200
  rw [List.length_append, List.length_cons]
  have : UNK.length = 8 := rfl
  omega
theorem read_space_eq (h : PP p) (hns : 1 ≤ ns.length ∧ ns.length ≤ 10) (hws : ns = ws.map sS) (hw : ∀ w ∈ ws, NmOk w) (hI : isIns "Space" F_Space___init__ [nD p, .lst (ns.map .str)] = some (spcD p ns)) (L : List (List Nat)) : F_read_space [.lst ((hd1 p :: hd2 ws :: L).map txD)] = some (spcD p ns) := by
  have hwl : ws.length = ns.length := by rw [hws, List.length_map]
  have h0 : ws ≠ [] := fun z => by rw [z] at hwl; simp at hwl; omega
  have e32 : (D.str " ") = txD [32] := rfl
  have enum : (D.str "numbers") = txD NUM := rfl
  have eunk : (D.str "unknowns ") = txD (UNK ++ [32]) := rfl
  have s1 : splD (txD (hd1 p)) (txD [32]) = some (.lst [txD NUM, txD [48 + p]]) := by
    rw [spl_tx (by simp [hd1, NUM])]
    rw [hd1, splC_app (by decide), splC_free (by simp; omega)]
    rfl
  have hl2 := hd2_len hw (by omega)
  have s2 : splD (txD (hd2 ws)) (txD [32]) = some (.lst ((UNK :: ws).map txD)) := by
    rw [spl_tx (by omega), hd2_spl hw h0]
  have q1 : eqD (txD NUM) (txD NUM) = some true := by rw [tx_eq (by decide) (by decide)]; rfl
  have q2 := num_in h
  have hlen : 9 ≤ (hd2 ws).length := by
    show 9 ≤ (UNK ++ 32 :: jn [32] ws).length
    rw [List.length_append, List.length_cons]
    have : UNK.length = 8 := rfl
    omega
  have q3 : slcT none (some 9) (txD (hd2 ws)) = some (txD (UNK ++ [32])) := by
    show (if (⟨(hd2 ws).toArray⟩ : Str).length ≤ szL then some (D.str ⟨(cut (hd2 ws) none (some ((9 : Nat) : Int))).toArray⟩) else none) = _
    rw [if_pos (by show (hd2 ws).toArray.size ≤ szL; unfold szL; simp; omega), cut_upto hlen]
    rfl
  have q4 : eqD (txD (UNK ++ [32])) (txD (UNK ++ [32])) = some true := by rw [tx_eq (by decide) (by decide)]; rfl
  have q5 := num_int h
  have q6 : slcL (some 1) none (.lst ((UNK :: ws).map txD)) = some (.lst (ns.map .str)) := by
    show some (D.lst (cut ((UNK :: ws).map txD) (some ((1 : Nat) : Int)) none)) = _
    rw [cut_from (by simp), hws]
    simp
    intro a _
    rfl
  have g0 : getD (.lst ((hd1 p :: hd2 ws :: L).map txD)) (.int 0) = some (txD (hd1 p)) := by rw [getD_l (by omega)]; rfl
  have g1 : getD (.lst ((hd1 p :: hd2 ws :: L).map txD)) (.int 1) = some (txD (hd2 ws)) := by rw [getD_l (by omega)]; rfl
  have hl : lenD (.lst ((hd1 p :: hd2 ws :: L).map txD)) = some (.int ((L.length + 2 : Nat) : Int)) := by
    simp [lenD]
    omega
  have hl' : (((L.length + 2 : Nat) : Int) < 2) ↔ False := iff_false_intro (by omega)
  have gn0 : getD (.lst [txD NUM, txD [48 + p]]) (.int 0) = some (txD NUM) := rfl
  have gn1 : getD (.lst [txD NUM, txD [48 + p]]) (.int 1) = some (txD [48 + p]) := rfl
  have ln : lenD (.lst [txD NUM, txD [48 + p]]) = some (.int 2) := rfl
  generalize (hd1 p :: hd2 ws :: L).map txD = LL at g0 g1 hl ⊢
  generalize (UNK :: ws).map txD = WW at s2 q6
  unfold F_read_space
  simp -implicitDefEqProofs (disch := first | omega | (simp only [List.length_map, List.length_cons, List.length_nil, List.length_append, List.length_range, List.length_replicate]; omega)) only [sq_e, sqK_nx, sqK_ret, sqK_bk, sqK_ct, skip_e, setE_e, newE_e, rt_e, brk_e, cnt_e, ifS_e, ifK_t, ifK_f, ifX_t, ifX_f, ifT_t, ifT_f, fncK_ret, fncK_nx, ctK_nx, ctK_ct, ctK_ret, lcK_e, lstK_e, tupK_e, tupK_f, tupK_cat, ftupD_lst, ftupE_e, lenD_f, getD_f, addD_ff, blK_e, ovK_e, vaK_e, ife_e, var_e, ovar_e, cst_e, op1_e, op2_e, op3_e, aN_e, aC_e, tupE_e, lstE_e, cal_e, f1_e, cmp_e, flip_e, neg_e, chn_e, boo_e, tes_e, ff_e, tt_e, andT_e, orT_e, notT_e, fX_e, tX_e, andV_e, orV_e, notV_e, isN_e, yes_e, asg_e, gD_n, gD_t, gDs_n, gDs_c, frz_e, mov_e, movO_e, forE_e, iLst_e, iTp_e, iRng_e, one1_c, two2_c, iZp_e, lcE_e, lc2E_e, wip_n, wip_c, noOwn_n, noOwn_c, noO_no, noO_val, fnc_e, ini_e, met_e, fld_e, slE_e, prK_e, prt_e, prN_e, dic1_e, appK_e, app_e, extK_e, ext_e, stK_e, drpA_e, drpK_e, addD_int, addD_tup, addD_lst, subD_int, mulD_l, mulD_r, modD_int, divD_int, intD_int, intD_bl, ltD_int, leD_int, eqD_int, eqD_bl, lenD_tup, lenD_scr, tupD_lst, listD_lst, listD_tup, revL_lst, isBool_bl, max2_int, isBD_bl, revT_tup, iEnum_e, iItm_e, iSq_e, isC_i, isLst_l, addI_int, subI_int, iZm_e, seqK_t, seqK_l, dcE_e, getD_t, getD_s, rngL_n, rngL_i, rngL_2, sumL_ints, sumT_tup, sumT_lst, allL_bls, anyL_bls, lcT_t, lcT_f, set_0, set_s, szL_le, szL_lt, Option.bind_some, Option.map_some, List.map_cons, List.map_nil, List.length_cons, List.length_nil, List.length_map, List.length_range, List.getElem?_cons_zero, List.getElem?_cons_succ, List.getElem?_map, List.replicate_succ, List.replicate_zero, List.cons_append, List.nil_append, if_true, if_false, ite_true, ite_false, Bool.and_true, Bool.true_and, Bool.and_self, and_true, true_and, and_self, decide_true, decide_false, Bool.not_true, Bool.not_false, eq_self, Int.toNat_natCast, Int.toNat_zero, Nat.reduceAdd, Nat.reduceSub, Nat.reduceLeDiff, Nat.reduceMul, Nat.reduceEqDiff, Int.reduceToNat, Nat.zero_add, Nat.reduceLT, Int.reduceLT, Int.reduceLE, Int.reduceEq, Int.reduceNe, Int.reduceMul, Int.reduceAdd, Int.reducePow, Bool.false_eq_true, reduceCtorEq, not_true_eq_false, not_false_eq_true, ne_eq, Option.getD_some, if_pos, List.length_append, List.length_replicate, msI, maI, msT, maT, msP, maR, e32, enum, eunk, g0, s1, ln, gn0, q1, neg_e, gn1, q2, hl, hl', g1, q3, q4, q5, s2, q6, hI]
end

section
variable {p : Nat} {ns : List Str} {ws : List (List Nat)}
theorem hd1_ch (h : PP p) : (hd1 p).length ≤ 9 ∧ ∀ c ∈ hd1 p, c ≠ 10 := by
  rcases h with rfl | rfl | rfl | rfl <;> exact ⟨by decide, by decide⟩
theorem hd2_ch (hw : ∀ w ∈ ws, NmOk w) : ∀ c ∈ hd2 ws, c ≠ 10 := by
  have key : ∀ l : List (List Nat), (∀ w ∈ l, NmOk w) → ∀ c ∈ gl [32] l, c ≠ 10 := fun l => by
    induction l with
    | nil => intro _ c hc; cases hc
    | cons w l ih =>
      intro hl c hc
      have hc : c ∈ [32] ++ (w ++ gl [32] l) := hc
      simp only [List.mem_append, List.mem_singleton] at hc
      rcases hc with rfl | hc | hc
      · omega
      · exact (ld_ch c ((hl w List.mem_cons_self).2.2.1 c hc)).2.2
      · exact ih (fun y hy => hl y (List.mem_cons_of_mem _ hy)) c hc
  intro c hc
  have hc : c ∈ UNK ++ 32 :: jn [32] ws := hc
  simp only [List.mem_append, List.mem_cons] at hc
  rcases hc with hc | rfl | hc
  · have : ∀ c ∈ UNK, c ≠ 10 := by decide
    exact this c hc
  · omega
  · cases ws with
    | nil => cases hc
    | cons w l =>
      rcases List.mem_append.mp (show c ∈ w ++ gl [32] l from hc) with hc | hc
      · exact (ld_ch c ((hw w List.mem_cons_self).2.2.1 c hc)).2.2
      · exact key l (fun y hy => hw y (List.mem_cons_of_mem _ hy)) c hc
def sysL (p : Nat) (ws : List (List Nat)) (L : List (List Nat)) : List (List Nat) := hd1 p :: hd2 ws :: L
theorem read_sys_eq (h : PP p) (hns : 1 ≤ ns.length ∧ ns.length ≤ 10) (hws : ns = ws.map sS) (hw : ∀ w ∈ ws, NmOk w) (hI : isIns "Space" F_Space___init__ [nD p, .lst (ns.map .str)] = some (spcD p ns)) {es : List (List Nat × Poly)} (hel : es.length ≤ 5)
    (he : ∀ q ∈ es, q.1.length ≤ 100000 ∧ (∀ c ∈ q.1, c ≠ 10) ∧ ∀ ln, F_read_equation [spcD p ns, txD q.1, ln] = some (pD q.2)) : F_read_system [txD (jn [10] (sysL p ws (es.map (·.1))))] = some (sysD p ns (es.map (·.2))) := by
  have hwl : ws.length = ns.length := by rw [hws, List.length_map]
  have e10 : (D.str "\n") = txD [10] := rfl
  have h1 := hd1_ch h
  have h2 := hd2_ch hw
  have hl2 := hd2_len hw (by omega)
  have hg := gl_len (n := 100000) (c := 10) (hd2 ws :: es.map (·.1)) fun x hx => by
    rcases List.mem_cons.mp hx with rfl | hx
    · omega
    · obtain ⟨q, hq, rfl⟩ := List.mem_map.mp hx
      exact (he q hq).1
  rw [List.length_cons, List.length_map] at hg
  have hm := Nat.mul_le_mul (Nat.le_refl (100000 + 1)) (show es.length + 1 ≤ 6 by omega)
  have hs : splD (txD (jn [10] (sysL p ws (es.map (·.1))))) (txD [10]) = some (.lst ((sysL p ws (es.map (·.1))).map txD)) := by
    rw [spl_tx (by show (hd1 p ++ gl [10] (hd2 ws :: es.map (·.1))).length ≤ _; rw [List.length_append]; omega)]
    show some (D.lst ((splC 10 (hd1 p ++ gl [10] (hd2 ws :: es.map (·.1)))).map txD)) = _
    rw [spl_gl _ _ (fun z => h1.2 10 z rfl) fun y hy => by
      rcases List.mem_cons.mp hy with rfl | hy
      · exact fun z => h2 10 z rfl
      · obtain ⟨q, hq, rfl⟩ := List.mem_map.mp hy
        exact fun z => (he q hq).2.1 10 z rfl]
    rfl
  have hsp := read_space_eq h hns hws hw hI (es.map (·.1))
  have hsp : F_read_space [.lst ((sysL p ws (es.map (·.1))).map txD)] = some (spcD p ns) := hsp
  have hsl : slcL (some 2) none (.lst ((sysL p ws (es.map (·.1))).map txD)) = some (.lst ((es.map (·.1)).map txD)) := by
    show some (D.lst (cut ((sysL p ws (es.map (·.1))).map txD) (some ((2 : Nat) : Int)) none)) = _
    rw [cut_from (by simp [sysL])]
    rfl
  have hen : enumD [.lst ((es.map (·.1)).map txD)] = some (es.zipIdx.map fun q => D.tup [nD q.2, txD q.1.1]) := by
    show some _ = some _
    rw [List.map_map, List.zipIdx_map, List.map_map]
    rfl
  have e1 : lcRun (gD (.t [(.n 3), (.n 4)])) yes (cal F_read_equation (aC (var 2) (aC (var 4) (aC (op2 addD (var 3) (cst (.int 3))) aN)))) [.val (txD (jn [10] (sysL p ws (es.map (·.1))))), .val (.lst ((sysL p ws (es.map (·.1))).map txD)), .val (spcD p ns), .no, .no] (es.zipIdx.map fun q => D.tup [nD q.2, txD q.1.1]) = some ((es.zipIdx.map fun q => q.1.2).map pD) :=
    lcRun_m (enc' := pD) (fun q : (List Nat × Poly) × Nat => q.1.2) fun q hq => by
      have hm : q.1 ∈ es := by
        obtain ⟨_, hz⟩ := List.mem_zipIdx_iff_getElem?.mp hq |> fun z => (⟨trivial, z⟩ : True ∧ _)
        exact List.mem_of_getElem? hz
      have hr := (he q.1 hm).2.2 (.int ((q.2 : Int) + 3))
      simp_arith [hr]
  have e2 : (es.zipIdx.map fun q => q.1.2) = es.map (·.2) := by
    have := congrArg (List.map fun q : List Nat × Poly => q.2) (List.zipIdx_map_fst 0 es)
    rw [List.map_map] at this
    exact this
  rw [e2] at e1
  have hmk := sy_made (p := p) (ns := ns) (fs := es.map (·.2))
  generalize (sysL p ws (es.map (·.1))).map txD = LL at hs hsp hsl e1
  generalize txD (jn [10] (sysL p ws (es.map (·.1)))) = TT at hs e1 ⊢
  have hlz : (es.zipIdx.map fun q => D.tup [nD q.2, txD q.1.1]).length ≤ szL := by unfold szL; simp; omega
  generalize (es.zipIdx.map fun q => D.tup [nD q.2, txD q.1.1]) = ZZ at hen e1 hlz
  unfold F_read_system
  simp_arith [e10, hs, hsp, hsl, iEnum_e, hen, hlz, e1, hmk]
theorem write_sys_eq (h : PP p) (hns : 1 ≤ ns.length ∧ ns.length ≤ 10) (hws : ns = ws.map sS) (hw : ∀ w ∈ ws, NmOk w) {fs : List Poly} (hfl : fs.length ≤ 5) (hf : ∀ f ∈ fs, Can p ns.length f ∧ f.length ≤ 100) : F_write_system [sysD p ns fs] = some (txD (jn [10] (sysL p ws (fs.map (polT ws))))) := by
  have hp := h.bd
  have hwl : ws.length = ns.length := by rw [hws, List.length_map]
  have e10 : (D.str "\n") = txD [10] := rfl
  have e32 : (D.str " ") = txD [32] := rfl
  have enum : (D.str "numbers ") = txD (NUM ++ [32]) := rfl
  have eunk : (D.str "unknowns ") = txD (UNK ++ [32]) := rfl
  have q1 := num_str h
  have a1 : addD (txD (NUM ++ [32])) (txD [48 + p]) = some (txD (hd1 p)) := addT (by simp [NUM])
  have hjn : joinD (txD [32]) (.lst (ns.map .str)) = some (txD (jn [32] ws)) := by
    cases ws with
    | nil => simp at hwl; omega
    | cons w l =>
      have := jn_tx (c := 32) (n := 12) (m := 10) (x := w) (l := l) (fun y hy => (hw y hy).2.2.2) (by rw [List.length_cons] at hwl; omega) (by omega)
      rw [hws]
      rw [List.map_map]
      exact this
  have hl2 := hd2_len hw (by omega)
  have a2 : addD (txD (UNK ++ [32])) (txD (jn [32] ws)) = some (txD (hd2 ws)) := by
    have := addT (a := UNK ++ [32]) (b := jn [32] ws) (by
      have e : (hd2 ws).length = 8 + (1 + (jn [32] ws).length) := by
        show (UNK ++ 32 :: jn [32] ws).length = _
        rw [List.length_append, List.length_cons]
        have : UNK.length = 8 := rfl
        omega
      have : (UNK ++ [32]).length = 9 := rfl
      omega)
    rw [List.append_assoc] at this
    exact this
  have hpl : ∀ f ∈ fs, F_write_polynomial [spcD p ns, pD f] = some (txD (polT ws f)) := fun f hfm => write_pol_eq (by omega) hws (by omega) (fun w hm => (hw w hm).2.2.2) (hf f hfm).1 (hf f hfm).2
  have e1 : ∀ s2, lcRun (gD (.n 3)) yes (cal F_write_polynomial (aC (var 1) (aC (var 3) aN))) [.val (sysD p ns fs), .val (spcD p ns), s2, .no] (fs.map pD) = some ((fs.map (polT ws)).map txD) := fun s2 =>
    lcRun_m (enc' := txD) (polT ws) fun f hfm => by
      have hq := hpl f hfm
      simp_arith [hq]
  have hadd : addL (.lst [txD (hd1 p), txD (hd2 ws)]) (.lst ((fs.map (polT ws)).map txD)) = some (.lst ((sysL p ws (fs.map (polT ws))).map txD)) := by
    simp only [addL]
    rw [if_pos (by unfold szL; simp; omega)]
    rfl
  have h1 := hd1_ch h
  have hj := jn_tx (c := 10) (n := 100000) (m := 6) (x := hd1 p) (l := hd2 ws :: fs.map (polT ws)) (fun y hy => by
    rcases List.mem_cons.mp hy with rfl | hy
    · omega
    · rcases List.mem_cons.mp hy with rfl | hy
      · omega
      · obtain ⟨f, hfm, rfl⟩ := List.mem_map.mp hy
        exact (pol_goodC (ns := ns) (by omega) hws (by omega) hw (hf f hfm).1 (hf f hfm).2).1) (by simp; omega) (by omega)
  have hj : joinD (txD [10]) (.lst ((sysL p ws (fs.map (polT ws))).map txD)) = some (txD (jn [10] (sysL p ws (fs.map (polT ws))))) := hj
  unfold F_write_system
  simp_arith [sy_space, sp_prime, enum, q1, a1, eunk, e32, sp_names, hjn, a2, sy_equations, e1, hadd, e10, hj]
end

theorem gl_all {P : Nat → Prop} {c : Nat} (hc : P c) : ∀ l : List (List Nat), (∀ x ∈ l, ∀ y ∈ x, P y) → ∀ y ∈ gl [c] l, P y
  | [], _, y, hy => by cases hy
  | x :: l, h, y, hy => by
    have hy : y ∈ [c] ++ (x ++ gl [c] l) := hy
    simp only [List.mem_append, List.mem_singleton] at hy
    rcases hy with rfl | hy | hy
    · exact hc
    · exact h x List.mem_cons_self y hy
    · exact gl_all hc l (fun z hz => h z (List.mem_cons_of_mem _ hz)) y hy
theorem jn_all {P : Nat → Prop} {c : Nat} (hc : P c) {l : List (List Nat)} (h : ∀ x ∈ l, ∀ y ∈ x, P y) : ∀ y ∈ jn [c] l, P y := fun y hy => by
  cases l with
  | nil => cases hy
  | cons x l =>
    rcases List.mem_append.mp (show y ∈ x ++ gl [c] l from hy) with hy | hy
    · exact h x List.mem_cons_self y hy
    · exact gl_all hc l (fun z hz => h z (List.mem_cons_of_mem _ hz)) y hy
theorem plain_polsF (l : List Poly) : (D.lst (l.map pD)).plain 60 = true := by
  simp only [D.plain]
  exact plains_all fun d hd => by
    obtain ⟨x, _, rfl⟩ := List.mem_map.mp hd
    exact plain_pD x
theorem plain_nms {ns : List Str} (hP : Pl ns) : (D.lst (ns.map .str)).plain 60 = true := by
  simp only [D.plain]
  exact plains_all fun d hd => by
    obtain ⟨x, hx, rfl⟩ := List.mem_map.mp hd
    exact (hP x hx).1
structure EqOk (p : Nat) (ns : List Str) (q : List Nat × Poly) : Prop where
  len : q.1.length ≤ 100000
  nl : ∀ c ∈ q.1, c ≠ 10
  rd : ∀ ln, F_read_equation [spcD p ns, txD q.1, ln] = some (pD q.2)
  can : Can p ns.length q.2
theorem F_law_true (ns : List Int) (hns : ns.length ≤ 63) : F_law [.scr ns] = some (.bl true) := by
  obtain ⟨p, n, h, hshape⟩ := shape_eq (ns.getD 0 0)
  have hb := h.bd
  have hsm := h.small
  have hpp := h.pp
  obtain ⟨a, b, ha, hb4, hnames⟩ := names_eq (ns.getD 1 0) n (by omega)
  have hspace := space_made h ha hb4
  have hnl : (nms a ([1, 3, 5, 7].getD b 0) n).length = n := nms_len
  have hP : Pl (nms a ([1, 3, 5, 7].getD b 0) n) := nms_Pl
  have hnd := nms_nd a ha b hb4 n (by omega)
  have hws := nms_ws a ([1, 3, 5, 7].getD b 0) n
  have hwo := wsN_ok (a := a) (st := [1, 3, 5, 7].getD b 0) (n := n)
  generalize wsN a ([1, 3, 5, 7].getD b 0) n = ws at hws hwo
  generalize nms a ([1, 3, 5, 7].getD b 0) n = nm at hnames hspace hnl hP hnd hws
  have c0 : F__law_cell [.scr ns, .int 0] = _ := cell_eq ns 0
  have c1 : F__law_cell [.scr ns, .int 1] = _ := cell_eq ns 1
  have c2 : F__law_cell [.scr ns, .int 2] = _ := cell_eq ns 2
  have hI : isIns "Space" F_Space___init__ [nD p, .lst (nm.map .str)] = some (spcD p nm) := by
    simp only [isIns, hspace, Option.bind_some]; rfl
  have c3 : ∀ k : Nat, F__law_cell [.scr ns, .int (3 + 2 * (k : Int))] = some (.int (ns.getD (3 + 2 * k) 0)) := fun k => by
    have := cell_eq ns (3 + 2 * k)
    rw [show ((3 + 2 * k : Nat) : Int) = 3 + 2 * (k : Int) from by push_cast; rfl] at this
    exact this
  have c4 : ∀ k : Nat, F__law_cell [.scr ns, .int (4 + 2 * (k : Int))] = some (.int (ns.getD (4 + 2 * k) 0)) := fun k => by
    have := cell_eq ns (4 + 2 * k)
    rw [show ((4 + 2 * k : Nat) : Int) = 4 + 2 * (k : Int) from by push_cast; rfl] at this
    exact this
  subst hnl
  have hn1 : 1 ≤ nm.length ∧ nm.length ≤ 10 := by omega
  have hwl : ws.length = nm.length := by rw [hws, List.length_map]
  obtain ⟨m, hm, hm5⟩ := emod_nat (ns.getD 2 0) (m := 5) (by omega)
  have hm : ns.getD 2 0 % 5 = (m : Int) := hm
  have hrg : rngL [nD m] = some ((List.range m).map fun (k : Nat) => D.int (k : Int)) := rngL_n (n := m) (by omega)
  have e10 : (D.str "\n") = txD [10] := rfl
  have e32 : (D.str " ") = txD [32] := rfl
  have e61 : (D.str "=") = txD [61] := rfl
  have enum : (D.str "numbers ") = txD (NUM ++ [32]) := rfl
  have eunk : (D.str "unknowns ") = txD (UNK ++ [32]) := rfl
  have q1 := num_str hpp
  have a1 : addD (txD (NUM ++ [32])) (txD [48 + p]) = some (txD (hd1 p)) := addT (by simp [NUM])
  have hjn : joinD (txD [32]) (.lst (nm.map .str)) = some (txD (jn [32] ws)) := by
    cases ws with
    | nil => simp at hwl; omega
    | cons w l =>
      have := jn_tx (c := 32) (n := 12) (m := 10) (x := w) (l := l) (fun y hy => (hwo y hy).2.2.2) (by rw [List.length_cons] at hwl; omega) (by omega)
      rw [hws, List.map_map]
      exact this
  have hl2 := hd2_len hwo (by omega)
  have a2 : addD (txD (UNK ++ [32])) (txD (jn [32] ws)) = some (txD (hd2 ws)) := by
    have := addT (a := UNK ++ [32]) (b := jn [32] ws) (by
      have e : (hd2 ws).length = 8 + (1 + (jn [32] ws).length) := by
        show (UNK ++ 32 :: jn [32] ws).length = _
        rw [List.length_append, List.length_cons]
        have : UNK.length = 8 := rfl
        omega
      have : (UNK ++ [32]).length = 9 := rfl
      omega)
    rw [List.append_assoc] at this
    exact this
  unfold F_law
  simp -implicitDefEqProofs (disch := first | omega | (simp only [List.length_map, List.length_cons, List.length_nil, List.length_append, List.length_range, List.length_replicate]; omega)) only [sq_e, sqK_nx, sqK_ret, sqK_bk, sqK_ct, skip_e, setE_e, newE_e, rt_e, brk_e, cnt_e, ifS_e, ifK_t, ifK_f, ifX_t, ifX_f, ifT_t, ifT_f, fncK_ret, fncK_nx, ctK_nx, ctK_ct, ctK_ret, lcK_e, lstK_e, tupK_e, tupK_f, tupK_cat, ftupD_lst, ftupE_e, lenD_f, getD_f, addD_ff, blK_e, ovK_e, vaK_e, ife_e, var_e, ovar_e, cst_e, op1_e, op2_e, op3_e, aN_e, aC_e, tupE_e, lstE_e, cal_e, f1_e, cmp_e, flip_e, neg_e, chn_e, boo_e, tes_e, ff_e, tt_e, andT_e, orT_e, notT_e, fX_e, tX_e, andV_e, orV_e, notV_e, isN_e, yes_e, asg_e, gD_n, gD_t, gDs_n, gDs_c, frz_e, mov_e, movO_e, forE_e, iLst_e, iTp_e, iRng_e, one1_c, two2_c, iZp_e, lcE_e, lc2E_e, wip_n, wip_c, noOwn_n, noOwn_c, noO_no, noO_val, fnc_e, ini_e, met_e, fld_e, slE_e, prK_e, prt_e, prN_e, dic1_e, appK_e, app_e, extK_e, ext_e, stK_e, drpA_e, drpK_e, addD_int, addD_tup, addD_lst, subD_int, mulD_l, mulD_r, modD_int, divD_int, intD_int, intD_bl, ltD_int, leD_int, eqD_int, eqD_bl, lenD_lst, lenD_tup, lenD_scr, tupD_lst, listD_lst, listD_tup, revL_lst, isBool_bl, max2_int, isBD_bl, revT_tup, iEnum_e, iItm_e, iSq_e, isC_i, isLst_l, addI_int, subI_int, iZm_e, seqK_t, seqK_l, dcE_e, getD_l, getD_t, getD_s, rngL_2, sumL_ints, sumT_tup, sumT_lst, allL_bls, anyL_bls, lcT_t, lcT_f, set_0, set_s, szL_le, szL_lt, Option.bind_some, Option.map_some, List.map_cons, List.map_nil, List.length_cons, List.length_nil, List.length_map, List.length_range, List.getElem?_cons_zero, List.getElem?_cons_succ, List.getElem?_map, List.replicate_succ, List.replicate_zero, List.cons_append, List.nil_append, if_true, if_false, ite_true, ite_false, Bool.and_true, Bool.true_and, Bool.and_self, and_true, true_and, and_self, decide_true, decide_false, Bool.not_true, Bool.not_false, eq_self, Int.toNat_natCast, Int.toNat_zero, Nat.reduceAdd, Nat.reduceSub, Nat.reduceLeDiff, Nat.reduceMul, Nat.reduceEqDiff, Int.reduceToNat, Nat.zero_add, Nat.reduceLT, Int.reduceLT, Int.reduceLE, Int.reduceEq, Int.reduceNe, Int.reduceMul, Int.reduceAdd, Int.reducePow, Bool.false_eq_true, reduceCtorEq, not_true_eq_false, not_false_eq_true, ne_eq, Option.getD_some, if_pos, List.length_append, List.length_replicate, msI, maI, msT, maT, msP, maR, c0, hshape, c1, hnames, enum, q1, a1, eunk, e32, hjn, a2, c2, hm, hrg]
  generalize hl : loop _ _ _ _ = o
  obtain ⟨e, rfl, es, s4, s6, s9, s10, s11, hel, hes, h9, rfl⟩ := loop_p hl (fun l env => ∃ (es : List (List Nat × Poly)) (s4 s6 s9 s10 s11 : DSlot), es.length = l.length ∧ (∀ q ∈ es, EqOk p nm q) ∧ noO (some s9) = true ∧ env = [.val (.scr ns), .val (.lst (nm.map .str)), .own (.lst ((sysL p ws (es.map (·.1))).map txD)), .own (.lst ((es.map (·.2)).map pD)), s4, .no, s6, .val (nD p), .val (nD nm.length), s9, s10, s11])
    ⟨[], _, _, _, _, _, rfl, by simp, rfl, rfl⟩ (by
      rintro l k e hk hlt ⟨es, s4, s6, s9, s10, s11, hel, hes, h9, rfl⟩
      rw [List.length_range] at hlt
      obtain ⟨t1, f1', h1, h3, h4, h5, h6⟩ := lexp_eq hpp hP hn1 (by omega) hnd hws hwo (ns.getD (3 + 2 * k) 0 + (k : Int))
      have hadd : ∀ (q : List Nat × Poly), EqOk p nm q → (sysL p ws ((es ++ [q]).map (·.1))).map txD = (sysL p ws (es.map (·.1))).map txD ++ [txD q.1] ∧ ((es ++ [q]).map (·.2)).map pD = (es.map (·.2)).map pD ++ [pD q.2] ∧ ∀ r ∈ es ++ [q], EqOk p nm r := fun q hq => ⟨by simp [sysL], by simp, fun r hr => (List.mem_append.mp hr).elim (hes r) fun z => by rw [List.mem_singleton.mp z]; exact hq⟩
      have hlen1 : ((sysL p ws (es.map (·.1))).map txD).length < szL := by simp [sysL]; unfold szL; omega
      have hlen2 : ((es.map (·.2)).map pD).length < szL := by simp; unfold szL; omega
      generalize hLL : (sysL p ws (es.map (·.1))).map txD = LL at hadd hlen1
      generalize hFF : (es.map (·.2)).map pD = FF at hadd hlen2
      by_cases ct : 0 < (ns.getD 2 0 / 5 + (k : Int)) % 3
      · have ct' : 0 < (ns.getD 2 0 / 5 + (k : Int)) % 3 ↔ True := iff_true_intro ct
        obtain ⟨t2, f2', g1, g3, g4, g5, g6⟩ := lexp_eq hpp hP hn1 (by omega) hnd hws hwo (ns.getD (4 + 2 * k) 0 + 3 * (k : Int))
        have l1 := h3.len
        have l2 := g3.len
        have hmi := lminus_eq (p := p) (by omega) hn1.1 h3 g3 (by omega) (by omega)
        have b1 := addT (a := t1) (b := [61]) (by simp; omega)
        have b2 := addT (a := t1 ++ [61]) (b := t2) (by simp; omega)
        simp only [List.append_assoc, List.cons_append, List.nil_append] at b1 b2
        have hq : EqOk p nm (t1 ++ 61 :: t2, subP p f1' f2') := ⟨by simp; omega, fun c hc => by
          simp only [List.mem_append, List.mem_cons] at hc
          rcases hc with hc | rfl | hc
          · exact (h6 c hc).2.2
          · omega
          · exact (g6 c hc).2.2, fun ln => eqn_two (by omega) hn1.1 h3 g3 (by omega) (by omega) h4 g4 (by omega) (by omega) h6 g6, sub_can (by omega) h3 g3⟩
        obtain ⟨z1, z2, z3⟩ := hadd _ hq
        refine stp (by simp_arith [c3, h1, c2, ct', c4, g1, e61, b1, b2, hmi, hlen1, hlen2, List.append_assoc, List.cons_append, List.nil_append]; rfl) ?_
        exact ⟨es ++ [(t1 ++ 61 :: t2, subP p f1' f2')], _, _, _, _, _, by simp [hel], z3, rfl, by rw [z1, z2]⟩
      · have ct' : 0 < (ns.getD 2 0 / 5 + (k : Int)) % 3 ↔ False := iff_false_intro ct
        have hq : EqOk p nm (t1, f1') := ⟨by show t1.length ≤ 100000; omega, fun c hc => (h6 c hc).2.2, fun ln => eqn_one (s := t1) h4 (by omega) h6, h3⟩
        obtain ⟨z1, z2, z3⟩ := hadd _ hq
        refine stp (by simp_arith [c3, h1, c2, ct', hlen1, hlen2]; rfl) ?_
        exact ⟨es ++ [(t1, f1')], _, _, _, _, _, by simp [hel], z3, rfl, by rw [z1, z2]⟩)
  have hel5 : es.length ≤ 5 := by rw [hel, List.length_range]; omega
  have hh1 := hd1_ch hpp
  have hfs : ∀ f ∈ es.map (·.2), Can p nm.length f ∧ f.length ≤ 100 := fun f hf => by
    obtain ⟨q, hq, rfl⟩ := List.mem_map.mp hf
    have := (hes q hq).can.len
    exact ⟨(hes q hq).can, by omega⟩
  have hj1 : joinD (txD [10]) (.lst ((sysL p ws (es.map (·.1))).map txD)) = some (txD (jn [10] (sysL p ws (es.map (·.1))))) := jn_tx (c := 10) (n := 100000) (m := 6) (x := hd1 p) (l := hd2 ws :: es.map fun q : List Nat × Poly => q.1) (fun y hy => by
    rcases List.mem_cons.mp hy with rfl | hy
    · omega
    · rcases List.mem_cons.mp hy with rfl | hy
      · omega
      · obtain ⟨q, hq, rfl⟩ := List.mem_map.mp hy
        exact (hes q hq).len) (by simp; omega) (by omega)
  have hr1 := read_sys_eq hpp hn1 hws hwo hI hel5 fun q hq => ⟨(hes q hq).len, (hes q hq).nl, (hes q hq).rd⟩
  have hsl : slcL none (some 2) (.lst ((sysL p ws (es.map (·.1))).map txD)) = some (.lst [txD (hd1 p), txD (hd2 ws)]) := by
    show some (D.lst (cut ((sysL p ws (es.map (·.1))).map txD) none (some ((2 : Nat) : Int)))) = _
    rw [cut_upto (by simp [sysL])]
    rfl
  have hpg : ∀ f ∈ es.map (·.2), (polT ws f).length ≤ 100000 ∧ ∀ x ∈ polT ws f, Ch x := fun f hf => pol_goodC (ns := nm) (by omega) hws (by omega) hwo (hfs f hf).1 (hfs f hf).2
  have hr2 := read_sys_eq hpp hn1 hws hwo hI (es := (es.map (·.2)).map fun f => (polT ws f, f)) (by simpa using hel5) fun q hq => by
    obtain ⟨f, hf, rfl⟩ := List.mem_map.mp hq
    have hg := hpg f hf
    exact ⟨hg.1, fun c hc => (hg.2 c hc).2.2, fun ln => eqn_one (rd_polT hpp hP hn1 (by omega) hnd hws hwo (hfs f hf).1 (by have := (hfs f hf).2; omega)) hg.1 hg.2⟩
  have x1 : ((es.map (·.2)).map fun f => (polT ws f, f)).map (·.1) = (es.map (·.2)).map (polT ws) := by rw [List.map_map]; rfl
  have x2 : ((es.map (·.2)).map fun f => (polT ws f, f)).map (·.2) = es.map (·.2) := by rw [List.map_map]; exact List.map_id _
  rw [x1, x2] at hr2
  have hw1 := write_sys_eq hpp hn1 hws hwo (fs := es.map (·.2)) (by simpa using hel5) hfs
  generalize hF : es.map (·.2) = fs at hfs hr1 hpg hr2 hw1 ⊢
  have hfl5 : fs.length ≤ 5 := by rw [← hF, List.length_map]; exact hel5
  have e1 : ∀ s4 s5 s6 s10 s11, lcRun (gD (.n 9)) yes (cal F__law_written (aC (var 1) (aC (var 9) aN))) [.val (.scr ns), .val (.lst (nm.map .str)), .val (.lst ((sysL p ws (es.map (·.1))).map txD)), .own (.lst (fs.map pD)), s4, s5, s6, .val (nD p), .val (nD nm.length), .no, s10, s11] (fs.map pD) = some ((fs.map (polT ws)).map txD) := fun s4 s5 s6 s10 s11 =>
    lcRun_m (enc' := txD) (polT ws) fun f hf => by
      have hq := lwritten_eq (p := p) (by omega) hws (by omega) (fun w hm => (hwo w hm).2.2.2) (hfs f hf).1 (hfs f hf).2
      simp_arith [hq]
  have hadd : addL (.lst [txD (hd1 p), txD (hd2 ws)]) (.lst ((fs.map (polT ws)).map txD)) = some (.lst ((sysL p ws (fs.map (polT ws))).map txD)) := by
    simp only [addL]
    rw [if_pos (by unfold szL; simp; omega)]
    rfl
  have hj2 : joinD (txD [10]) (.lst ((sysL p ws (fs.map (polT ws))).map txD)) = some (txD (jn [10] (sysL p ws (fs.map (polT ws))))) := jn_tx (c := 10) (n := 100000) (m := 6) (x := hd1 p) (l := hd2 ws :: fs.map (polT ws)) (fun y hy => by
    rcases List.mem_cons.mp hy with rfl | hy
    · omega
    · rcases List.mem_cons.mp hy with rfl | hy
      · omega
      · obtain ⟨f, hf, rfl⟩ := List.mem_map.mp hy
        exact (hpg f hf).1) (by simp; omega) (by omega)
  have hsm2 : ∀ c ∈ jn [10] (sysL p ws (fs.map (polT ws))), c < 128 := jn_all (by omega) fun x hx y hy => by
    rcases List.mem_cons.mp hx with rfl | hx
    · rcases hpp with rfl | rfl | rfl | rfl <;> revert y <;> decide
    · rcases List.mem_cons.mp hx with rfl | hx
      · rcases List.mem_append.mp (show y ∈ UNK ++ 32 :: jn [32] ws from hy) with hy | hy
        · have : ∀ c ∈ UNK, c < 128 := by decide
          exact this y hy
        · rcases List.mem_cons.mp hy with rfl | hy
          · omega
          · exact jn_all (P := fun c => c < 128) (by omega) (fun w hm c hc => ld_lt c ((hwo w hm).2.2.1 c hc)) y hy
      · obtain ⟨f, hf, rfl⟩ := List.mem_map.mp hx
        exact ((hpg f hf).2 y hy).1
  have eq1 := eqD_refl (plain_nms hP)
  have eq2 := eqD_refl (plain_polsF fs)
  have eq3 : eqD (txD (jn [10] (sysL p ws (fs.map (polT ws))))) (txD (jn [10] (sysL p ws (fs.map (polT ws))))) = some true := by rw [tx_eq hsm2 hsm2]; simp
  have hfz : (fs.map pD).length ≤ szL := by unfold szL; simp; omega
  have hic := isC_sy (p := p) (ns := nm) (fs := fs)
  generalize (sysL p ws (es.map (·.1))).map txD = LL at hj1 hsl e1 ⊢
  generalize txD (jn [10] (sysL p ws (es.map (·.1)))) = T1 at hj1 hr1
  generalize (sysL p ws (fs.map (polT ws))).map txD = L2 at hadd hj2
  generalize txD (jn [10] (sysL p ws (fs.map (polT ws)))) = T2 at hj2 hr2 hw1 eq3
  generalize fs.map (polT ws) = PT at e1 hadd
  simp_arith [e10, hj1, hr1, hic, sy_space, sp_prime, sp_names, neg_e, eq1, hsl, hfz, h9, e1, hadd, hj2, sy_equations, eq2, hw1, eq3, hr2]

end PV

open PySem PySem.W PySem.Calls PyProof.Rows
theorem PySem.Challenge.cw_standingpowers_k12_texts_of_systems_holds : PySem.Challenge.rw_standingpowers_k12_texts_of_systems.Holds := by
  w_on; o_law
  refine HandSHeadRun.head_any (r := OpenLaw.row PySem.Challenge.rw_standingpowers_k12_texts_of_systems) (q := view (OpenLaw.row PySem.Challenge.rw_standingpowers_k12_texts_of_systems).prog [62]) (H := PV.hk) (ob := PV.ob) (M := 5000) (loose := PV.loose) (d := HandSHeadRun.topDef (OpenLaw.row PySem.Challenge.rw_standingpowers_k12_texts_of_systems).prog 62) (kwd := []) PV.ob_eq
    (by kernel_rfl) (fun s => by kernel_rfl) PV.run (by kernel_rfl) (by kernel_rfl) (by kernel_rfl) (by rfl) (by first | assumption | decide +kernel) (by decide +kernel) ⟨rfl, rfl, rfl, rfl, rfl, by decide +kernel⟩ ?hw ?hc
  case hw => w_witness2
  case hc =>
    refine L2.walk_ofE (l := PySem.Challenge.rw_standingpowers_k12_texts_of_systems) (n := 63) (k := 24) (x := "_law_script") (CX := L2.CX0) rfl (by decide) (by kernel_rfl) ⟨rfl, by decide, by decide⟩ ?F (fun _ _ _ _ z => z)
    intro w mg fa h Y G hmg0
    obtain ⟨K, KX, c⟩ := Y
    have hmg : mg ("law" : PySem.Str) = some (.ref fa) := by
      have e : (HandSHeadRun.topDef (OpenLaw.row PySem.Challenge.rw_standingpowers_k12_texts_of_systems).prog 62).name = ("law" : PySem.Str) := by kernel_rfl
      rw [← e]
      exact hmg0
    have Z := PV.zf_of c KX G
    obtain ⟨fd, F, hF⟩ := PV.ok_law (P := (PySem.Challenge.rw_standingpowers_k12_texts_of_systems).prog) (w := w) Z
    have e := hmg.symm.trans (Z.glo 89 (x := "law"))
    cases e
    have b := L2.FunD.bindsA (ps := ["_law_script"]) F fun _ _ _ _ _ _ us hl => match us, hl with | [_], _ => rfl
    exact ⟨K, fd, PV.spD mg PV.F_law, KX, fun s v => b s [v] rfl, fun H a ns hl _ hS => PV.law_says (Z.exf 3 (f := PV.noLst)) (PV.F_law_true ns hl) hS, fun base _ _ => hF base⟩


