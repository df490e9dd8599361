import PyProof.Rows.All
import Wide.All
import OpenK.AllK
import Wide.FinOn
import HandS.ForMost
import HandS.Zip
import HandS.TupAny
import HandS.TupMul
import HandS.TupLe
import HandS.DictComp
import HandS.DictTup
import HandS.Deep
import HandS.Conv
import HandS.SortKw
import HandS.Defaults
import HandS.Lambda
import HandS.Style
import HandS.IsInst
import HandS.Head0
import HandS.Head1
import HandS.Head2
import HandS.HeadEnd
import HandS.HeadHook1
import HandS.HeadHook2
import KE.KTupSum
import KE.KDictSum
import HandS.TupSets
import HandS.Strs
import KE.DataCmp
import KE.GoesEnum
import KE.KDictPairs
import KE.KDictKeyed
import KE.GoesZip
import KE.KDictZip
import HandS.EndTab
import HandS.HeadWalk
import KE.SortKeyHeap
import KE.DataMinKey
import KE.KNestM
import PySem.Challenge.RW_standingpowers_k40_sets_of_points_as_sys
import HandS.SetBool
import HandS.SetFor
import HandS.Remove
import KE.KUnpack
import KE.KItemsList
import HandS.TryOnly
import HandS.Replace
import PyProof.StrLawsChain
import PyProof.StrLawsTight
import HandS.WordsExc
import HandS.ExcIs
import HandS.HeadHook3
import PySem.Str
set_option autoImplicit true
set_option Elab.async false
set_option linter.all false
set_option maxRecDepth 100000
set_option maxHeartbeats 0
namespace PV
open PySem

inductive D where
  | non
  | bl (b : Bool)
  | int (i : Int)
  | str (s : Str)
  | tup (xs : List D)
  | lst (xs : List D)
  | dic (t : Bool) (ks vs : List D)
  | ins (c : Str) (fs : List Str) (xs : List D)
  | scr (ns : List Int)
  | ftup (xs : List D)

def szL : Nat := 16777216

mutual
def D.eqv : D → D → Bool
  | .non, .non => true
  | .bl a, .bl b => a == b
  | .bl a, .int j => (if a then 1 else 0) == j
  | .int i, .bl b => i == (if b then 1 else 0)
  | .int i, .int j => i == j
  | .str x, .str y => x == y
  | .tup xs, .tup ys => D.eqvs xs ys
  | .ftup xs, .ftup ys => D.eqvs xs ys
  | .ftup xs, .tup ys => D.eqvs xs ys
  | .tup xs, .ftup ys => D.eqvs xs ys
  | .lst xs, .lst ys => D.eqvs xs ys
  | _, _ => false
def D.eqvs : List D → List D → Bool
  | [], [] => true
  | x :: xs, y :: ys => D.eqv x y && D.eqvs xs ys
  | _, _ => false
end
mutual
def D.plain : Nat → D → Bool
  | _, .non => true
  | _, .bl _ => true
  | _, .int _ => true
  | _, .str x => x.cps.all (· < 0x110000)
  | n + 1, .tup xs => D.plains n xs
  | n + 1, .ftup xs => D.plains n xs
  | n + 1, .lst xs => D.plains n xs
  | _, _ => false
def D.plains : Nat → List D → Bool
  | _, [] => true
  | n, x :: xs => D.plain n x && D.plains n xs
end
mutual
def D.imm : D → Bool
  | .non => true
  | .bl _ => true
  | .int _ => true
  | .str _ => true
  | .tup xs => D.imms xs
  | .ftup xs => D.imms xs
  | _ => false
def D.imms : List D → Bool
  | [] => true
  | x :: xs => D.imm x && D.imms xs
end
inductive DSlot where
  | no
  | val (d : D)
  | own (d : D)
  | slf (d : D)
abbrev DEnv := List DSlot
inductive DRes where
  | nx (e : DEnv)
  | ret (d : D)
  | bk (e : DEnv)
  | ct (e : DEnv)
abbrev Ex := DEnv → Option D
abbrev Tx := DEnv → Option Bool
abbrev Sx := DEnv → Option DRes
abbrev Ax := DEnv → Option (List D)
abbrev Gx := D → DEnv → Option DEnv
abbrev Fn := List D → Option D

def var (i : Nat) : Ex := fun e => match e[i]? with
  | some (.val d) => some d
  | _ => none
def ovar (i : Nat) : Ex := fun e => match e[i]? with
  | some (.own d) => some d
  | _ => none
def cst (d : D) : Ex := fun _ => some d
def imm (a : Ex) : Ex := fun e => (a e).bind fun d => if d.imm then some d else none
def op1 (f : D → Option D) (a : Ex) : Ex := fun e => (a e).bind f
def op2 (f : D → D → Option D) (a b : Ex) : Ex := fun e => (a e).bind fun x => (b e).bind fun y => f x y
def aN : Ax := fun _ => some []
def aC (a : Ex) (r : Ax) : Ax := fun e => (a e).bind fun x => (r e).bind fun xs => some (x :: xs)
def tupE (a : Ax) : Ex := fun e => (a e).bind fun xs => if xs.length ≤ szL then some (.tup xs) else none
def lstE (a : Ax) : Ex := fun e => (a e).bind fun xs => if xs.length ≤ szL then some (.lst xs) else none
def cal (f : Fn) (a : Ax) : Ex := fun e => (a e).bind f
def ife (t : Tx) (a b : Ex) : Ex := fun e => (t e).bind fun c => if c then a e else b e

def addD : D → D → Option D
  | .int a, .int b => some (.int (a + b))
  | .str a, .str b => if a.length + b.length ≤ szL then some (.str (a ++ b)) else none
  | .tup a, .tup b => if a.length + b.length ≤ szL then some (.tup (a ++ b)) else none
  | .ftup a, .ftup b => if a.length + b.length ≤ szL then some (if a.isEmpty then .ftup b else if b.isEmpty then .ftup a else .tup (a ++ b)) else none
  | .ftup a, .tup b => if a.length + b.length ≤ szL then some (if !a.isEmpty && b.isEmpty then .ftup a else .tup (a ++ b)) else none
  | .tup a, .ftup b => if a.length + b.length ≤ szL then some (if a.isEmpty then .ftup b else .tup (a ++ b)) else none
  | .lst a, .lst b => if a.length + b.length ≤ szL then some (.lst (a ++ b)) else none
  | _, _ => none
def subD : D → D → Option D
  | .int a, .int b => some (.int (a - b))
  | _, _ => none
def b64 (a : Int) : Bool := decide (a.natAbs.log2 < 64)
def mulD : D → D → Option D
  | .int a, .int b => if b64 a || b64 b then some (.int (a * b)) else none
  | .tup a, .int b => if !a.isEmpty && decide (1 ≤ b) && decide (b ≤ 1000) && decide (a.length ≤ 1000) then some (.tup ((List.replicate b.toNat a).flatten)) else none
  | _, _ => none
def modD : D → D → Option D
  | .int a, .int b => if 0 < b then some (.int (a % b)) else none
  | _, _ => none
def divD : D → D → Option D
  | .int a, .int b => if decide (0 < b) && decide (b < 1073741824) then some (.int (a / b)) else none
  | _, _ => none
def powD : D → D → Option D
  | .int a, .int b => if decide (0 ≤ b) && decide (b ≤ 1000000) && decide (a.natAbs < 2 ^ 64) then some (.int (a ^ b.toNat)) else none
  | _, _ => none
def eqD (a b : D) : Option Bool := if a.plain 60 && b.plain 60 then some (D.eqv a b) else none
def ltD : D → D → Option Bool
  | .int a, .int b => some (decide (a < b))
  | _, _ => none
def leD : D → D → Option Bool
  | .int a, .int b => some (decide (a ≤ b))
  | _, _ => none
def cmp (f : D → D → Option Bool) (a b : Ex) : Tx := fun e => (a e).bind fun x => (b e).bind fun y => f x y
def flip (f : D → D → Option Bool) : D → D → Option Bool := fun a b => f b a
def chn (f g : D → D → Option Bool) (a b c : Ex) : Tx := fun e => (a e).bind fun x => (b e).bind fun y => (f x y).bind fun r => if r then (c e).bind fun z => g y z else some false
def boo (t : Tx) : Ex := fun e => (t e).map D.bl
def tes (a : Ex) : Tx := fun e => (a e).bind fun d => match d with
  | .bl b => some b
  | _ => none
def andT (a b : Tx) : Tx := fun e => (a e).bind fun c => if c then b e else some false
def orT (a b : Tx) : Tx := fun e => (a e).bind fun c => if c then some true else b e
def notT (a : Tx) : Tx := fun e => (a e).map not

def key1 : D → Bool
  | .int _ => true
  | .str _ => true
  | _ => false
def keyD : Bool → D → Bool
  | false, k => key1 k
  | true, .tup xs => xs.all key1
  | true, _ => false
def dget : List D → List D → D → Option D
  | k :: ks, v :: vs, x => if D.eqv k x then some v else dget ks vs x
  | _, _, _ => none
def ixN (n : Nat) (i : Int) : Option Nat := if 0 ≤ i then (if i < n then some i.toNat else none) else if -(n : Int) ≤ i then some (i + n).toNat else none
def getD : D → D → Option D
  | .lst xs, .int i => (ixN xs.length i).bind fun k => xs[k]?
  | .tup xs, .int i => (ixN xs.length i).bind fun k => xs[k]?
  | .ftup xs, .int i => (ixN xs.length i).bind fun k => xs[k]?
  | .scr ns, .int i => (ixN ns.length i).bind fun k => (ns[k]?).map D.int
  | .str s, .int i => if s.length ≤ szL then (ixN s.length i).bind fun k => (s.cps[k]?).map fun c => .str ⟨#[c]⟩ else none
  | _, _ => none
def getK : D → D → Option D
  | .dic t ks vs, k => if keyD t k then dget ks vs k else none
  | _, _ => none
def getK2 : D → D → D → Option D
  | .dic t ks vs, k, x => if keyD t k then some ((dget ks vs k).getD x) else none
  | _, _, _ => none
def dupd : List D → List D → D → D → List D
  | k :: ks, v :: vs, x, y => (if D.eqv k x then y else v) :: dupd ks vs x y
  | _, _, _, _ => []
def dput (ks vs : List D) (x y : D) : List D × List D := if (dget ks vs x).isSome then (ks, dupd ks vs x y) else (ks ++ [x], vs ++ [y])
def lenD : D → Option D
  | .scr ns => some (.int ns.length)
  | .lst xs => some (.int xs.length)
  | .tup xs => some (.int xs.length)
  | .ftup xs => some (.int xs.length)
  | .str s => if s.length ≤ szL then some (.int s.length) else none
  | _ => none
def intD : D → Option D
  | .int i => some (.int i)
  | .bl b => some (.int (if b then 1 else 0))
  | _ => none

def sq (a b : Sx) : Sx := fun e => (a e).bind fun r => match r with
  | .nx e' => b e'
  | r => some r
def skip : Sx := fun e => some (.nx e)
def setE (i : Nat) (a : Ex) : Sx := fun e => (a e).bind fun d => some (.nx (e.set i (.val d)))
def newE (i : Nat) (a : Ex) : Sx := fun e => (a e).bind fun d => some (.nx (e.set i (.own d)))
def rt (a : Ex) : Sx := fun e => (a e).bind fun d => some (.ret d)
def ifS (t : Tx) (a b : Sx) : Sx := fun e => (t e).bind fun c => if c then a e else b e
def brk : Sx := fun e => some (.bk e)
def cnt : Sx := fun e => some (.ct e)
inductive Tg where
  | n (i : Nat)
  | t (l : List Tg)
mutual
def gD : Tg → Gx
  | .n i => fun d e => some (e.set i (.val d))
  | .t l => fun d e => match d with
    | .tup xs => gDs l xs e
    | _ => none
def gDs : List Tg → List D → DEnv → Option DEnv
  | [] => fun ds e => match ds with
    | [] => some e
    | _ :: _ => none
  | g :: gs => fun ds e => match ds with
    | d :: ds => (gD g d e).bind fun e' => gDs gs ds e'
    | [] => none
end
mutual
def Tg.slots : Tg → List Nat
  | .n i => [i]
  | .t l => Tg.slotss l
def Tg.slotss : List Tg → List Nat
  | [] => []
  | g :: gs => g.slots ++ Tg.slotss gs
end
def asg (g : Tg) (a : Ex) : Sx := fun e => (a e).bind fun d => (gD g d e).bind fun e' => some (.nx e')
def frz (j : Nat) (b : Sx) : Sx := fun e => match e[j]? with
  | some (.own d) => b (e.set j (.val d))
  | _ => none
def mov (i j : Nat) : Sx := fun e => match e[j]? with
  | some (.own d) => some (.nx ((e.set j .no).set i (.val d)))
  | _ => none
def movO (i j : Nat) : Sx := fun e => match e[j]? with
  | some (.own d) => some (.nx ((e.set j .no).set i (.own d)))
  | _ => none
def loop (g : Gx) (b : Sx) : List D → DEnv → Option DRes
  | [], e => some (.nx e)
  | x :: xs, e => (g x e).bind fun e1 => (b e1).bind fun r => match r with
    | .nx e2 => loop g b xs e2
    | .ct e2 => loop g b xs e2
    | .bk e2 => some (.nx e2)
    | .ret d => some (.ret d)
def forE (it : Ax) (g : Tg) (b : Sx) : Sx := fun e => (it e).bind fun xs => loop (gD g) b xs e
def iLst (a : Ex) : Ax := fun e => (a e).bind fun d => match d with
  | .lst xs => some xs
  | _ => none
def iTp (a : Ex) : Ax := fun e => (a e).bind fun d => match d with
  | .tup xs => some xs
  | .ftup xs => some xs
  | _ => none
def rngL : List D → Option (List D)
  | [.int n] => if decide (-(2 ^ 62) ≤ n ∧ n < 2 ^ 62) then some ((List.range n.toNat).map fun (k : Nat) => .int (k : Int)) else none
  | [.int m, .int n] => if decide (-(2 ^ 62) ≤ m ∧ m < 2 ^ 62 ∧ -(2 ^ 62) ≤ n ∧ n < 2 ^ 62) then some ((List.range (n - m).toNat).map fun (k : Nat) => .int (m + (k : Int))) else none
  | _ => none
def one1 (a : Ax) : Ax := fun e => (a e).bind fun l => match l with
  | [x] => some [x]
  | _ => none
def two2 (a : Ax) : Ax := fun e => (a e).bind fun l => match l with
  | [x, y] => some [x, y]
  | _ => none
def iRng (a : Ax) : Ax := fun e => (a e).bind rngL
def wip (e : DEnv) : List Nat → DEnv
  | [] => e
  | v :: vs => (wip e vs).set v .no
def noOwn (e : DEnv) (ws : List Nat) : Bool := ws.all fun i => match (e[i]? : Option DSlot) with
  | some DSlot.no => true
  | some (DSlot.val _) => true
  | _ => false
def lcRun (g : Gx) (t : Tx) (a : Ex) (e0 : DEnv) : List D → Option (List D)
  | [] => some []
  | x :: xs => (g x e0).bind fun e1 => (t e1).bind fun c => if c then (a e1).bind fun y => (lcRun g t a e0 xs).bind fun ys => some (y :: ys) else lcRun g t a e0 xs
def lcE (it : Ax) (g : Tg) (t : Tx) (a : Ex) (ws : List Nat) : Ex := fun e => (it e).bind fun xs => if xs.length ≤ szL ∧ noOwn e ws = true then (lcRun (gD g) t a (wip e ws) xs).bind fun ys => some (.lst ys) else none
def yes : Tx := fun _ => some true
def fnc (m n : Nat) (b : Sx) : Fn := fun ds => if ds.length = m then (b (ds.map DSlot.val ++ List.replicate (n - m) DSlot.no)).bind fun r => match r with
  | .ret d => some d
  | .nx _ => some .non
  | _ => none
  else none
def ini (c : Str) (m n : Nat) (b : Sx) : Fn := fun ds => if ds.length + 1 = m then (b (DSlot.slf (.ins c [] []) :: (ds.map DSlot.val ++ List.replicate (n - m) DSlot.no))).bind fun r => match r with
  | .nx e => match (e[0]? : Option DSlot) with
    | some (DSlot.slf (D.ins c' fs xs)) => if c' = c then some (.ins c' fs xs) else none
    | _ => none
  | _ => none
  else none
def metD (l : List (Str × Fn)) (m : Str) (ds : List D) : D → Option D
  | .ins c fs xs => if m ∈ fs then none else (l.lookup c).bind fun f => f (.ins c fs xs :: ds)
  | _ => none
def met (l : List (Str × Fn)) (m : Str) (o : Ex) (a : Ax) : Ex := fun e => (o e).bind fun d => (a e).bind fun ds => metD l m ds d
def attr (cs : List Str) (f : Str) : D → Option D
  | .ins c fs xs => if c ∈ cs then (fs.zip xs).lookup f else none
  | _ => none
def fld (cs : List Str) (f : Str) (a : Ex) : Ex := op1 (attr cs f) a
def putFD (f : Str) (d : D) : List Str → List D → List Str × List D
  | g :: gs, x :: xs => if g = f then (g :: gs, d :: xs) else (g :: (putFD f d gs xs).1, x :: (putFD f d gs xs).2)
  | _, _ => ([f], [d])
def setF (i : Nat) (c f : Str) (a : Ex) : Sx := fun e => (a e).bind fun d => match e[i]? with
  | some (.slf (.ins c' fs xs)) => if c' = c ∧ fs.length < 1000 ∧ fs.length = xs.length then some (.nx (e.set i (.slf (.ins c' (putFD f d fs xs).1 (putFD f d fs xs).2)))) else none
  | _ => none
end PV
namespace PV
open PySem
def inL : D → D → Option Bool
  | x, .lst ys => if x.plain 60 && D.plains 59 ys then some (ys.any fun z => D.eqv z x) else none
  | _, _ => none
def inS : D → D → Option Bool
  | .str x, .str y => match x.cps.toList with
    | [c] => some (decide (c ∈ y.cps.toList))
    | _ => none
  | _, _ => none
def neg (f : D → D → Option Bool) : D → D → Option Bool := fun a b => (f a b).map not
def prt (a : Ex) : DEnv → Option (Option Int) := fun e => (a e).bind fun d => match d with
  | .int i => some (some i)
  | _ => none
def prN : DEnv → Option (Option Int) := fun _ => some none
def six (n d : Nat) : Option Int → Nat
  | none => d
  | some v => if v < 0 then (v + (n : Int)).toNat else min v.toNat n
def cut {α : Type} (xs : List α) (lo hi : Option Int) : List α := (xs.drop (six xs.length 0 lo)).take (six xs.length xs.length hi - six xs.length 0 lo)
def slcT (lo hi : Option Int) : D → Option D
  | .tup xs => some (.tup (cut xs lo hi))
  | .ftup xs => some (if six xs.length 0 lo = 0 ∧ six xs.length xs.length hi = xs.length then .ftup xs else .tup (cut xs lo hi))
  | .str s => if s.length ≤ szL then some (.str ⟨(cut s.cps.toList lo hi).toArray⟩) else none
  | _ => none
def slcL (lo hi : Option Int) : D → Option D
  | .lst xs => some (.lst (cut xs lo hi))
  | _ => none
def slE (f : Option Int → Option Int → D → Option D) (a : Ex) (lo hi : DEnv → Option (Option Int)) : Ex := fun e => (a e).bind fun d => (lo e).bind fun l => (hi e).bind fun h => f l h d
def revL : D → Option D
  | .lst xs => some (.lst xs.reverse)
  | _ => none
def f1 (f : D → Option D) : Fn := fun ds => match ds with
  | [d] => f d
  | _ => none
def intsOf : List D → Option (List Int)
  | [] => some []
  | .int i :: r => (intsOf r).map (i :: ·)
  | _ :: _ => none
def blsOf : List D → Option (List Bool)
  | [] => some []
  | .bl i :: r => (blsOf r).map (i :: ·)
  | _ :: _ => none
def sumL : D → Option D
  | .lst xs => (intsOf xs).map fun ns => .int ns.sum
  | _ => none
def allL : D → Option D
  | .lst xs => (blsOf xs).map fun bs => .bl (bs.all id)
  | _ => none
def anyL : D → Option D
  | .lst xs => (blsOf xs).map fun bs => .bl (bs.any id)
  | _ => none
end PV
namespace PV
open PySem
def andV (a b : Ex) : Ex := fun e => (a e).bind fun d => match d with
  | .bl true => b e
  | .bl false => some (.bl false)
  | _ => none
def orV (a b : Ex) : Ex := fun e => (a e).bind fun d => match d with
  | .bl true => some (.bl true)
  | .bl false => b e
  | _ => none
def notV (a : Ex) : Ex := fun e => (a e).bind fun d => match d with
  | .bl b => some (.bl (!b))
  | _ => none
def isNonD : D → Bool
  | .non => true
  | _ => false
def isN (a : Ex) : Tx := fun e => (a e).map isNonD
end PV
namespace PV
open PySem
def app (i : Nat) (a : Ex) : Sx := fun e => (a e).bind fun d => match (e[i]? : Option DSlot) with
  | some (DSlot.own (D.lst xs)) => if xs.length < szL then some (.nx (e.set i (.own (.lst (xs ++ [d]))))) else none
  | _ => none
def ext (i : Nat) (a : Ex) : Sx := fun e => (a e).bind fun d => match (e[i]? : Option DSlot), d with
  | some (DSlot.own (D.lst xs)), .lst ys => if xs.length + ys.length ≤ szL then some (.nx (e.set i (.own (.lst (xs ++ ys))))) else none
  | _, _ => none
def stK (i : Nat) (k a : Ex) : Sx := fun e => (a e).bind fun d => (k e).bind fun kd => match (e[i]? : Option DSlot) with
  | some (DSlot.own (D.dic t ks vs)) => if keyD t kd ∧ ks.length < szL ∧ ks.length = vs.length then some (.nx (e.set i (.own (.dic t (dput ks vs kd d).1 (dput ks vs kd d).2)))) else none
  | _ => none
def op3 (f : D → D → D → Option D) (a b c : Ex) : Ex := fun e => (a e).bind fun x => (b e).bind fun y => (c e).bind fun z => f x y z
end PV

namespace PV
open PySem PySem.Spec PyProof.Rows L2

def kD : Key → D
  | .inl i => .int i
  | .inr x => .str x
section
variable (mg : Str → Option Value)
mutual
inductive Rep (A : Addr → Prop) (H : Hp) : V → D → Prop
  | non : Rep A H .non .non
  | bl (b : Bool) : Rep A H (.bl b) (.bl b)
  | int (i : Int) : Rep A H (.int i) (.int i)
  | str (x : Str) : Rep A H (.str x) (.str x)
  | tup {a : Addr} {xs : List V} {ds : List D} : H a = some (.tup xs) → Reps A H xs ds → Rep A H (.ref a) (.tup ds)
  | lst {a : Addr} {xs : List V} {ds : List D} : A a → H a = some (.lst xs) → Reps A H xs ds → Rep A H (.ref a) (.lst ds)
  | scr {a : Addr} {ns : List Int} : A a → Rd H a (.lst (ns.map V.int)) → Rep A H (.ref a) (.scr ns)
  | dicK {a : Addr} {kvs : List (Key × V)} {ds : List D} : A a → Rd H a (.dK kvs) → Reps A H (kvs.map (·.2)) ds → Rep A H (.ref a) (.dic false (kvs.map fun p => kD p.1) ds)
  | dicT {a : Addr} {kvs : List (List Key × V)} {ds : List D} : A a → Rd H a (.dT kvs) → Reps A H (kvs.map (·.2)) ds → Rep A H (.ref a) (.dic true (kvs.map fun p => .tup (p.1.map kD)) ds)
  | ins {a C dx : Addr} {c : Str} {fs : List (Str × V)} {ds : List D} : A a → H a = some (.ins C dx fs) → mg c = some (.ref C) → Reps A H (fs.map (·.2)) ds → Rep A H (.ref a) (.ins c (fs.map (·.1)) ds)
  | ftup {a : Addr} {o : Obj} {xs : List V} {ds : List D} : H a = some (.frz o (.tup xs)) → o.dict = none → Reps A H xs ds → Rep A H (.ref a) (.ftup ds)
inductive Reps (A : Addr → Prop) (H : Hp) : List V → List D → Prop
  | nil : Reps A H [] []
  | cons {v : V} {vs : List V} {d : D} {ds : List D} : Rep A H v d → Reps A H vs ds → Reps A H (v :: vs) (d :: ds)
end
inductive Own (A : Addr → Prop) (H : Hp) (a : Addr) : D → Prop
  | lst {xs : List V} {ds : List D} : H a = some (.lst xs) → Reps mg A H xs ds → Own A H a (.lst ds)
  | dicK {kvs : List (Key × V)} {ds : List D} : H a = some (.dK kvs) → Reps mg A H (kvs.map (·.2)) ds → Own A H a (.dic false (kvs.map fun p => kD p.1) ds)
  | dicT {kvs : List (List Key × V)} {ds : List D} : H a = some (.dT kvs) → Reps mg A H (kvs.map (·.2)) ds → Own A H a (.dic true (kvs.map fun p => .tup (p.1.map kD)) ds)
  | ins {C dx : Addr} {c : Str} {fs : List (Str × V)} {ds : List D} : H a = some (.ins C dx fs) → mg c = some (.ref C) → Reps mg A H (fs.map (·.2)) ds → Own A H a (.ins c (fs.map (·.1)) ds)
end

class LT where
  T : List (Addr × Str)
instance (priority := 10) LT.none : LT := ⟨[]⟩
class RT where
  nw : Bool
  so : Bool
instance (priority := 10) RT.no : RT := ⟨false, false⟩
@[reducible] def RT.yes : RT := ⟨true, false⟩
@[reducible] def RT.st : RT := ⟨true, true⟩
variable [LT]
class NT (o : HO) : Prop where
  nt : ∀ ps, o ≠ .tbl ps
instance : NT (.lst xs) := ⟨fun _ h => nomatch h⟩
instance : NT (.tup xs) := ⟨fun _ h => nomatch h⟩
instance : NT (.dK xs) := ⟨fun _ h => nomatch h⟩
instance : NT (.dT xs) := ⟨fun _ h => nomatch h⟩
instance : NT (.ins C dx fs) := ⟨fun _ h => nomatch h⟩
instance : NT (.frz o u) := ⟨fun _ h => nomatch h⟩
instance : NT (.xd fs) := ⟨fun _ h => nomatch h⟩
instance : NT (.own y) := ⟨fun _ h => nomatch h⟩
instance : NT (.set S n) := ⟨fun _ h => nomatch h⟩
instance : NT (.ext φ) := ⟨fun _ h => nomatch h⟩
structure Same (H H' : Hp) : Prop where
  stay : ∀ (b : Addr) (o : HO), H b = some o → [NT o] → H' b = some o
  tab : LamX.Tabs LT.T H → LamX.Tabs LT.T H'
  dom : ∀ b, H' b = none → H b = none
instance {H H' : Hp} : CoeFun (Same H H') (fun _ => ∀ (b : Addr) (o : HO), H b = some o → [NT o] → H' b = some o) := ⟨fun s => s.stay⟩
theorem Same.of {H H' : Hp} (e : ∀ b o, H b = some o → H' b = some o) : Same H H' := ⟨fun b o h => e b o h, fun t => t.ext e, fun b h => by
  cases q : H b with
  | none => rfl
  | some o => rw [e b o q] at h; cases h⟩
theorem Same.refl (H : Hp) : Same H H := Same.of fun _ _ h => h
theorem Same.trans {H H1 H2 : Hp} (a : Same H H1) (b : Same H1 H2) : Same H H2 := ⟨fun c o h => b.stay c o (a.stay c o h), fun t => b.tab (a.tab t), fun c h => a.dom c (b.dom c h)⟩
theorem Same.free {H H' : Hp} (e : Same H H') {l : Addr} (h : H' l = Option.none) : H l = Option.none := e.dom l h
theorem Same.seq {K : PySem.W.Frag} {H H' : Hp} {a : Addr} {xs : List V} (e : Same H H') (h : SqL K H a xs) : SqL K H' a xs := by
  rcases h with (h | ⟨o, h⟩) | h
  · exact .inl (.inl (e _ _ h))
  · exact .inl (.inr ⟨o, e _ _ h⟩)
  · exact .inr h
structure Keep (A : Addr → Prop) (H H' : Hp) : Prop where
  rd : ∀ (a : Addr) (u : HO), A a → [NT u] → Rd H a u → Rd H' a u
  ins : ∀ a C dx fs, A a → H a = some (.ins C dx fs) → H' a = some (.ins C dx fs)
  lst : ∀ a xs, A a → H a = some (.lst xs) → H' a = some (.lst xs)
  tup : ∀ a xs, H a = some (.tup xs) → H' a = some (.tup xs)
  fz : ∀ a o xs, H a = some (.frz o (.tup xs)) → H' a = some (.frz o (.tup xs))
theorem Same.rd {H H' : Hp} (e : Same H H') {a : Addr} {u : HO} [NT u] (h : Rd H a u) : Rd H' a u := by
  rcases h with h | ⟨o, h⟩
  · exact .inl (e _ _ h)
  · exact .inr ⟨o, e _ _ h⟩
theorem Same.keep {A : Addr → Prop} {H H' : Hp} (e : Same H H') : Keep A H H' := ⟨fun _ _ _ _ h => Same.rd e h, fun _ _ _ _ _ h => e _ _ h, fun _ _ _ h => e _ _ h, fun _ _ h => e _ _ h, fun _ _ _ h => e _ _ h⟩
section
variable {K : PySem.W.Frag} {mg : Str → Option Value} {A A' : Addr → Prop} {H H' : Hp}
mutual
theorem Rep.mono (hA : ∀ a, A a → A' a) (k : Keep A H H') : ∀ {v : V} {d : D}, Rep mg A H v d → Rep mg A' H' v d
  | _, _, .non => .non
  | _, _, .bl b => .bl b
  | _, _, .int i => .int i
  | _, _, .str x => .str x
  | _, _, .tup h r => .tup (k.tup _ _ h) (Reps.mono hA k r)
  | _, _, .ftup h d r => .ftup (k.fz _ _ _ h) d (Reps.mono hA k r)
  | _, _, .lst a h r => .lst (hA _ a) (k.lst _ _ a h) (Reps.mono hA k r)
  | _, _, .scr a h => .scr (hA _ a) (k.rd _ _ a h)
  | _, _, .dicK a h r => .dicK (hA _ a) (k.rd _ _ a h) (Reps.mono hA k r)
  | _, _, .dicT a h r => .dicT (hA _ a) (k.rd _ _ a h) (Reps.mono hA k r)
  | _, _, .ins a h c r => .ins (hA _ a) (k.ins _ _ _ _ a h) c (Reps.mono hA k r)
theorem Reps.mono (hA : ∀ a, A a → A' a) (k : Keep A H H') : ∀ {vs : List V} {ds : List D}, Reps mg A H vs ds → Reps mg A' H' vs ds
  | _, _, .nil => .nil
  | _, _, .cons h t => .cons (Rep.mono hA k h) (Reps.mono hA k t)
end
theorem Rep.same (r : Rep mg A H v d) (e : Same H H') : Rep mg A H' v d := r.mono (fun _ h => h) (Same.keep e)
theorem Reps.same (r : Reps mg A H vs ds) (e : Same H H') : Reps mg A H' vs ds := r.mono (fun _ h => h) (Same.keep e)
theorem Reps.len : ∀ {vs : List V} {ds : List D}, Reps mg A H vs ds → vs.length = ds.length
  | _, _, .nil => rfl
  | _, _, .cons _ t => congrArg (· + 1) (Reps.len t)
theorem Reps.get : ∀ {vs : List V} {ds : List D} {i : Nat} {d : D}, Reps mg A H vs ds → ds[i]? = some d → ∃ v, vs[i]? = some v ∧ Rep mg A H v d
  | _, _, _, _, .nil, e => by simp at e
  | _, _, 0, _, .cons h _, e => by simp at e; subst e; exact ⟨_, rfl, h⟩
  | _, _, i + 1, _, .cons _ t, e => by
    obtain ⟨v, h1, h2⟩ := Reps.get (i := i) t (by simpa using e)
    exact ⟨v, by simpa using h1, h2⟩
theorem Reps.append : ∀ {vs ws : List V} {ds es : List D}, Reps mg A H vs ds → Reps mg A H ws es → Reps mg A H (vs ++ ws) (ds ++ es)
  | _, _, _, _, .nil, s => s
  | _, _, _, _, .cons h t, s => .cons h (Reps.append t s)
theorem Reps.rep (n : Nat) {vs : List V} {ds : List D} (h : Reps mg A H vs ds) : Reps mg A H (List.replicate n vs).flatten (List.replicate n ds).flatten := by
  induction n with
  | zero => exact .nil
  | succ n ih => simp only [List.replicate_succ, List.flatten_cons]; exact h.append ih
theorem Reps.take : ∀ {vs : List V} {ds : List D} (n : Nat), Reps mg A H vs ds → Reps mg A H (vs.take n) (ds.take n)
  | _, _, 0, _ => .nil
  | _, _, _ + 1, .nil => .nil
  | _, _, n + 1, .cons h t => .cons h (Reps.take n t)
theorem Reps.drop : ∀ {vs : List V} {ds : List D} (n : Nat), Reps mg A H vs ds → Reps mg A H (vs.drop n) (ds.drop n)
  | _, _, 0, r => r
  | _, _, _ + 1, .nil => .nil
  | _, _, n + 1, .cons _ t => Reps.drop n t
theorem Reps.reverse : ∀ {vs : List V} {ds : List D}, Reps mg A H vs ds → Reps mg A H vs.reverse ds.reverse
  | _, _, .nil => .nil
  | _, _, .cons h t => by
    rw [List.reverse_cons, List.reverse_cons]
    exact (Reps.reverse t).append (.cons h .nil)
theorem Reps.set : ∀ {vs : List V} {ds : List D} {v : V} {d : D} (i : Nat), Reps mg A H vs ds → Rep mg A H v d → Reps mg A H (vs.set i v) (ds.set i d)
  | _, _, _, _, _, .nil, _ => .nil
  | _, _, _, _, 0, .cons _ t, r => .cons r t
  | _, _, _, _, i + 1, .cons h t, r => .cons h (Reps.set i t r)
mutual
/-- what holds no list, dict, instance, leans on no address -/
theorem Rep.immut {B : Addr → Prop} : ∀ {v : V} {d : D}, d.imm = true → Rep mg A H v d → Rep mg B H v d
  | _, _, _, .non => .non
  | _, _, _, .bl b => .bl b
  | _, _, _, .int i => .int i
  | _, _, _, .str x => .str x
  | _, _, e, .tup h r => .tup h (Reps.immut (by simpa [D.imm] using e) r)
  | _, _, e, .ftup h d r => .ftup h d (Reps.immut (by simpa [D.imm] using e) r)
  | _, _, e, .lst .. => by simp [D.imm] at e
  | _, _, e, .scr .. => by simp [D.imm] at e
  | _, _, e, .dicK .. => by simp [D.imm] at e
  | _, _, e, .dicT .. => by simp [D.imm] at e
  | _, _, e, .ins .. => by simp [D.imm] at e
theorem Reps.immut {B : Addr → Prop} : ∀ {vs : List V} {ds : List D}, D.imms ds = true → Reps mg A H vs ds → Reps mg B H vs ds
  | _, _, _, .nil => .nil
  | _, _, e, .cons h t => by
    have e' : _ := e
    simp only [D.imms, Bool.and_eq_true] at e'
    exact .cons (Rep.immut e'.1 h) (Reps.immut e'.2 t)
end
theorem Own.mono {a : Addr} {d : D} (r : Own mg A H a d) (hA : ∀ a, A a → A' a) (k : Keep A H H') (e : ∀ (o : HO), H a = some o → [NT o] → H' a = some o) : Own mg A' H' a d := by
  cases r with
  | lst h r => exact .lst (e _ h) (r.mono hA k)
  | dicK h r => exact .dicK (e _ h) (r.mono hA k)
  | dicT h r => exact .dicT (e _ h) (r.mono hA k)
  | ins h c r => exact .ins (e _ h) c (r.mono hA k)
theorem Own.some {a : Addr} {d : D} (r : Own mg A H a d) : ∃ o, H a = some o := by
  cases r with
  | lst h r => exact ⟨_, h⟩
  | dicK h r => exact ⟨_, h⟩
  | dicT h r => exact ⟨_, h⟩
  | ins h c r => exact ⟨_, h⟩
theorem Own.rep {a : Addr} {d : D} (r : Own mg A H a d) (hA : ∀ a, A a → A' a) (ha : A' a) : Rep mg A' H (.ref a) d := by
  have k : Keep A H H := Same.keep (Same.refl H)
  cases r with
  | lst h r => exact .lst ha h (r.mono hA k)
  | dicK h r => exact .dicK ha (.inl h) (r.mono hA k)
  | dicT h r => exact .dicT ha (.inl h) (r.mono hA k)
  | ins h c r => exact .ins ha h c (r.mono hA k)
end
end PV

namespace PV
variable [LT] [RT]
open PySem PySem.Spec PyProof.Rows L2

structure Bs where
  H0 : Hp
  A0 : Addr → Prop
  sf : Addr
  tb : LamX.Tabs LT.T H0
def Lv (B : Bs) (O : Nat → Option Addr) (τ : Bool) (a : Addr) : Prop := (B.A0 a ∨ B.H0 a = none) ∧ (τ = true ∨ ∀ j, O j ≠ some a)
structure Fr (A : Addr → Prop) (H : Hp) : Prop where
  new : ∀ a, H a = Option.none → A a
  tb : LamX.Tabs LT.T H
instance {A : Addr → Prop} {H : Hp} : CoeFun (Fr A H) (fun _ => ∀ a, H a = Option.none → A a) := ⟨fun f => f.new⟩
theorem Same.tabs {H H' : Hp} (s : Same H H') (t : LamX.Tabs LT.T H) : LamX.Tabs LT.T H' := s.tab t
def Wr : HO → Prop
  | .lst _ => True
  | .dK _ => True
  | .dT _ => True
  | .ins _ _ _ => True
  | .ext φ => ∀ c q, HO.ext φ ≠ LamX.CodeO c q
  | _ => False
theorem Wr.nt {o : HO} (w : Wr o) : NT o := ⟨fun ps e => by subst e; exact w⟩
structure ERel (K : PySem.W.Frag) (mg : Str → Option Value) (B : Bs) (O : Nat → Option Addr) (σ : L2.St) (H : Hp) (env : DEnv) : Prop where
  len : env.length = σ.length
  same : Same B.H0 H
  vals : ∀ (i : Nat) (d : D), env[i]? = some (DSlot.val d) → ∃ v, σ[i]? = some (some v) ∧ Rep mg (Lv B O false) H v d
  owns : ∀ (i : Nat) (d : D), env[i]? = some (DSlot.own d) → ∃ p, O i = some p ∧ σ[i]? = some (some (.ref p)) ∧ B.H0 p = none ∧ Own mg (Lv B O false) H p d
  slfs : ∀ (i : Nat) (d : D), env[i]? = some (DSlot.slf d) → O i = some B.sf ∧ σ[i]? = some (some (.ref B.sf)) ∧ Own mg (Lv B O false) H B.sf d
  inj : ∀ (i j : Nat) (p : Addr), O i = some p → O j = some p → i = j
  trk : ∀ (i : Nat) (p : Addr), O i = some p → ∃ o, H p = some o ∧ Wr o
  fr0 : ∀ (i : Nat) (p : Addr), O i = some p → B.H0 p = none
  bd : ∃ n, ∀ i, n ≤ i → O i = none
  nst : ∀ (i : Nat) (p : Addr), O i = some p → i < env.length → ∃ d, env[i]? = some (DSlot.own d) ∨ env[i]? = some (DSlot.slf d)
section
variable {K : PySem.W.Frag} {mg : Str → Option Value} {B : Bs} {H H' H1 H2 : Hp} {O O' O1 O2 : Nat → Option Addr} {σ : L2.St} {env : DEnv} {τ : Bool}
theorem Lv.mono {a : Addr} (h : Lv B O false a) : Lv B O τ a := ⟨h.1, h.2.elim (fun z => Bool.noConfusion z) fun z => .inr z⟩
theorem Lv.any {a : Addr} (h : Lv B O τ a) : Lv B O true a := ⟨h.1, .inl rfl⟩
theorem ERel.heap (r : ERel K mg B O σ H env) (s : Same H H') : ERel K mg B O σ H' env :=
  ⟨r.len, r.same.trans s, fun i d e => let ⟨v, h1, h2⟩ := r.vals i d e; ⟨v, h1, h2.same s⟩,
   fun i d e => let ⟨p, h1, h2, h3, h4⟩ := r.owns i d e; ⟨p, h1, h2, h3, h4.mono (fun _ z => z) (Same.keep s) fun o z _ => s _ _ z⟩, fun i d e => let ⟨h1, h2, h4⟩ := r.slfs i d e; ⟨h1, h2, h4.mono (fun _ z => z) (Same.keep s) fun o z _ => s _ _ z⟩, r.inj, fun i p e => let ⟨o, z, w⟩ := r.trk i p e; haveI := Wr.nt w; ⟨o, s _ _ z, w⟩, r.fr0, r.bd, r.nst⟩
theorem ERel.fr (r : ERel K mg B O σ H env) : Fr (Lv B O τ) H := by
  refine ⟨fun a h => ⟨.inr (Same.free r.same h), .inr fun j e => ?_⟩, r.same.tabs B.tb⟩
  obtain ⟨o, z, _⟩ := r.trk j a e
  rw [h] at z; cases z
structure Fm (O : Nat → Option Addr) (H : Hp) (O' : Nat → Option Addr) (H' : Hp) : Prop where
  keep : ∀ (b : Addr) (o : HO), (∀ j, O j ≠ some b) → H b = some o → [NT o] → H' b = some o
  tab : LamX.Tabs LT.T H → LamX.Tabs LT.T H'
  dom : ∀ b, H' b = none → H b = none
  sub : ∀ j b, O' j = some b → (∃ i, O i = some b) ∨ H b = none
theorem Fm.of_same (s : Same H H') : Fm O H O H' := ⟨fun b o _ e _ => s b o e, s.tab, s.dom, fun j b e => .inl ⟨j, e⟩⟩
theorem Fm.trans (a : Fm O H O1 H1) (b : Fm O1 H1 O2 H2) : Fm O H O2 H2 := by
  have out : ∀ c o, (∀ j, O j ≠ some c) → H c = some o → ∀ j, O1 j ≠ some c := fun c o hc e j z => by
    rcases a.sub j c z with ⟨i, q⟩ | q
    · exact hc i q
    · rw [e] at q; cases q
  refine ⟨fun c o hc e _ => b.keep c o (out c o hc e) (a.keep c o hc e), fun t => b.tab (a.tab t), fun c h => a.dom c (b.dom c h), fun j c e => ?_⟩
  rcases b.sub j c e with ⟨i, q⟩ | q
  · exact a.sub i c q
  · by_cases hc : ∃ i, O i = some c
    · exact .inl hc
    · cases z : H c with
      | none => exact .inr rfl
      | some o =>
        have := a.dom c q
        rw [z] at this; cases this
end

section
variable {K : PySem.W.Frag} {mg : Str → Option Value} {A : Addr → Prop} {H : Hp} {p : Addr}
theorem Rd.ne {a : Addr} {u : HO} (h : Rd H a u) (hp : H p = none) : a ≠ p := fun e => by
  subst e
  rcases h with h | ⟨o, h⟩ <;> (rw [hp] at h; cases h)
mutual
theorem Rep.ne (hp : H p = none) : ∀ {v : V} {d : D}, Rep mg A H v d → Rep mg (fun a => A a ∧ a ≠ p) H v d
  | _, _, .non => .non
  | _, _, .bl b => .bl b
  | _, _, .int i => .int i
  | _, _, .str x => .str x
  | _, _, .tup h r => .tup h (Reps.ne hp r)
  | _, _, .ftup h d r => .ftup h d (Reps.ne hp r)
  | _, _, .lst a h r => .lst ⟨a, Rd.ne (.inl h) hp⟩ h (Reps.ne hp r)
  | _, _, .scr a h => .scr ⟨a, Rd.ne h hp⟩ h
  | _, _, .dicK a h r => .dicK ⟨a, Rd.ne h hp⟩ h (Reps.ne hp r)
  | _, _, .dicT a h r => .dicT ⟨a, Rd.ne h hp⟩ h (Reps.ne hp r)
  | _, _, .ins a h c r => .ins ⟨a, Rd.ne (.inl h) hp⟩ h c (Reps.ne hp r)
theorem Reps.ne (hp : H p = none) : ∀ {vs : List V} {ds : List D}, Reps mg A H vs ds → Reps mg (fun a => A a ∧ a ≠ p) H vs ds
  | _, _, .nil => .nil
  | _, _, .cons h t => .cons (Rep.ne hp h) (Reps.ne hp t)
end
theorem Rd.trk {a : Addr} {u : HO} (h : Rd H a u) : ∃ o, H a = some o := by
  rcases h with h | ⟨o, h⟩
  · exact ⟨_, h⟩
  · exact ⟨_, h⟩
mutual
theorem Rep.keepT {B : Addr → Prop} (f : ∀ a, A a → (∃ o, H a = some o) → B a) : ∀ {v : V} {d : D}, Rep mg A H v d → Rep mg B H v d
  | _, _, .non => .non
  | _, _, .bl b => .bl b
  | _, _, .int i => .int i
  | _, _, .str x => .str x
  | _, _, .tup h r => .tup h (Reps.keepT f r)
  | _, _, .ftup h d r => .ftup h d (Reps.keepT f r)
  | _, _, .lst a h r => .lst (f _ a ⟨_, h⟩) h (Reps.keepT f r)
  | _, _, .scr a h => .scr (f _ a (Rd.trk h)) h
  | _, _, .dicK a h r => .dicK (f _ a (Rd.trk h)) h (Reps.keepT f r)
  | _, _, .dicT a h r => .dicT (f _ a (Rd.trk h)) h (Reps.keepT f r)
  | _, _, .ins a h c r => .ins (f _ a ⟨_, h⟩) h c (Reps.keepT f r)
theorem Reps.keepT {B : Addr → Prop} (f : ∀ a, A a → (∃ o, H a = some o) → B a) : ∀ {vs : List V} {ds : List D}, Reps mg A H vs ds → Reps mg B H vs ds
  | _, _, .nil => .nil
  | _, _, .cons h t => .cons (Rep.keepT f h) (Reps.keepT f t)
end
end

section
variable (K : PySem.W.Frag) (mg : Str → Option Value)
def tE (τ : Bool) (de : Ex) : TE := fun σ H Q => ∃ B O env d, ERel K mg B O σ H env ∧ de env = some d ∧ ∀ v H', Same H H' → Rep mg (Lv B O τ) H' v d → Q v H'
def tT (dt : Tx) : TT := fun σ H Q => ∃ B O env b, ERel K mg B O σ H env ∧ dt env = some b ∧ ∀ H', Same H H' → Q b H'
def tA (τ : Bool) (da : Ax) : TA := fun σ H Q => ∃ B O env ds, ERel K mg B O σ H env ∧ da env = some ds ∧ ∀ vs H', Same H H' → Reps mg (Lv B O τ) H' vs ds → Q vs H'
def tN (de : Ex) : TE := fun σ H Q => ∃ B O env d, ERel K mg B O σ H env ∧ de env = some d ∧ ∀ p H', Same H H' → H p = none → Own mg (fun a => Lv B O false a ∧ a ≠ p) H' p d → Q (.ref p) H'
def retP (B : Bs) (H' : Hp) (v : V) (d : D) : Prop := match RT.nw with
  | false => Rep mg (Lv B (fun _ => none) true) H' v d
  | true => match RT.so with
    | false => ∃ p, v = .ref p ∧ B.H0 p = none ∧ Own mg (fun a => Lv B (fun _ => none) true a ∧ a ≠ p) H' p d
    | true => ∃ d0 dn, d = .tup [d0, dn] ∧ Rep mg (fun a => Lv B (fun _ => none) true a ∧ a ≠ B.sf) H' v d0 ∧ Own mg (fun a => Lv B (fun _ => none) true a ∧ a ≠ B.sf) H' B.sf dn
def PostS (B : Bs) (O : Nat → Option Addr) (H : Hp) (D : Ends) : DRes → Prop
  | .nx e => ∀ σ' H' O', ERel K mg B O' σ' H' e → Fm O H O' H' → D.nx σ' H'
  | .bk e => ∀ σ' H' O', ERel K mg B O' σ' H' e → Fm O H O' H' → D.bk σ' H'
  | .ct e => ∀ σ' H' O', ERel K mg B O' σ' H' e → Fm O H O' H' → D.ct σ' H'
  | .ret d => ∀ v H', Same B.H0 H' → retP mg B H' v d → D.rt v H'
def tS (db : Sx) : TS := fun D σ H => ∃ B O env r, ERel K mg B O σ H env ∧ db env = some r ∧ PostS K mg B O H D r
def tG (dg : Gx) : TG := fun v σ H Q => ∃ B O env env' d, ERel K mg B O σ H env ∧ Rep mg (Lv B O false) H v d ∧ dg d env = some env' ∧ ∀ σ' H' O', ERel K mg B O' σ' H' env' → Fm O H O' H' → Q σ' H'
def Walks (A : Addr → Prop) (J : It) (ds : List D) (H1 : Hp) : Prop := ∀ (i : Nat) H, Keep A H1 H → (∀ x, ds[i]? = some x → J.go i H ∧ ∀ v H', J.yld i H v H' → Same H H' ∧ Rep mg A H' v x) ∧ (ds[i]? = none → J.stop i H)
def tI (di : Ax) : TI := fun σ H R => ∃ B O env ds, ERel K mg B O σ H env ∧ di env = some ds ∧ ∀ J H', Same H H' → Walks mg (fun a => Lv B O false a ∧ ∃ o, H' a = some o) J ds H' → R J H'
def rC (f : Fn) : List V → Hp → VK → Prop := fun vs H Q => ∃ A ds d, Fr A H ∧ Reps mg A H vs ds ∧ f ds = some d ∧ ∀ v H', Same H H' → Rep mg A H' v d → Q v H'
def spD (f : Fn) : Sp := fun vs H Q _ => rC mg f vs H Q
def rD (f : D → D → Option D) : R2 := fun x y H Q => ∃ A dx dy d, Fr A H ∧ Rep mg A H x dx ∧ Rep mg A H y dy ∧ f dx dy = some d ∧ ∀ v H', Same H H' → Rep mg A H' v d → Q v H'
end
theorem retP_rep {mg : Str → Option Value} {B : Bs} {H' : Hp} {v : V} {d : D} (hs : RT.so = false) (h : retP mg B H' v d) : Rep mg (Lv B (fun _ => none) true) H' v d := by
  unfold retP at h
  rw [hs] at h
  split at h
  · exact h
  · obtain ⟨p, rfl, hp, o⟩ := h
    exact o.rep (fun a z => z.1) ⟨.inr hp, .inl rfl⟩
theorem retP_of {mg : Str → Option Value} {B : Bs} {H' : Hp} {v : V} {d : D} (hn : RT.nw = false) (h : Rep mg (Lv B (fun _ => none) true) H' v d) : retP mg B H' v d := by
  unfold retP
  rw [hn]
  exact h
abbrev SE (X : Cx) (τ : Bool) (e : Expr) (de : Ex) : Prop := PE X e (tE X.K X.mg τ de)
abbrev SN (X : Cx) (e : Expr) (de : Ex) : Prop := PE X e (tN X.K X.mg de)
abbrev ST (X : Cx) (e : Expr) (dt : Tx) : Prop := PT X e (tT X.K X.mg dt)
abbrev SWd (X : Cx) (e : Expr) (dt : Tx) : Prop := PW X e (tT X.K X.mg dt)
abbrev SA (X : Cx) (τ : Bool) (es : List Expr) (da : Ax) : Prop := PA X es (tA X.K X.mg τ da)
abbrev SS (X : Cx) (s : Stmt) (ds : Sx) : Prop := PS X s (tS X.K X.mg ds)
abbrev SSs (X : Cx) (s : List Stmt) (ds : Sx) : Prop := PSs X s (tS X.K X.mg ds)
abbrev SG (X : Cx) (tg : Expr) (dg : Gx) : Prop := PG X tg (tG X.K X.mg dg)
abbrev SI (X : Cx) (tg e : Expr) (di : Ax) : Prop := PI X tg e (tI X.K X.mg di)

theorem _root_.L2.PE.weak {X : Cx} {e : Expr} {t t' : TE} (h : PE X e t) (w : ∀ σ H Q, t' σ H Q → t σ H Q) : PE X e t' := ⟨fun pins s σ H Q I q => h.run pins s σ H Q I (w _ _ _ q)⟩
theorem _root_.L2.PT.weak {X : Cx} {e : Expr} {t t' : TT} (h : PT X e t) (w : ∀ σ H Q, t' σ H Q → t σ H Q) : PT X e t' := ⟨fun pins s σ H Q I q => h.run pins s σ H Q I (w _ _ _ q)⟩
theorem _root_.L2.PW.weak {X : Cx} {e : Expr} {t t' : TT} (h : PW X e t) (w : ∀ σ H Q, t' σ H Q → t σ H Q) : PW X e t' := ⟨fun wh pins s σ H Q I q => h.run wh pins s σ H Q I (w _ _ _ q)⟩
theorem _root_.L2.PA.weak {X : Cx} {e : List Expr} {t t' : TA} (h : PA X e t) (w : ∀ σ H Q, t' σ H Q → t σ H Q) : PA X e t' := ⟨fun pos pins s σ H Q I q => h.run pos pins s σ H Q I (w _ _ _ q)⟩
theorem _root_.L2.PS.weak {X : Cx} {e : Stmt} {t t' : TS} (h : PS X e t) (w : ∀ D σ H, t' D σ H → t D σ H) : PS X e t' := ⟨fun pins s σ H D I q => h.run pins s σ H D I (w _ _ _ q)⟩
theorem _root_.L2.PSs.weak {X : Cx} {e : List Stmt} {t t' : TS} (h : PSs X e t) (w : ∀ D σ H, t' D σ H → t D σ H) : PSs X e t' := ⟨fun pins s σ H D I q => h.run pins s σ H D I (w _ _ _ q)⟩
theorem _root_.L2.PG.weak {X : Cx} {e : Expr} {t t' : TG} (h : PG X e t) (w : ∀ v σ H Q, t' v σ H Q → t v σ H Q) : PG X e t' := ⟨fun pins s σ H v u Q I r q => h.run pins s σ H v u Q I r (w _ _ _ _ q)⟩
theorem _root_.L2.PGs.weak {X : Cx} {e : List Expr} {t t' : TGs} (h : PGs X e t) (w : ∀ v σ H Q, t' v σ H Q → t v σ H Q) : PGs X e t' := ⟨fun pins s σ H v u Q I r q => h.run pins s σ H v u Q I r (w _ _ _ _ q)⟩
theorem _root_.L2.PI.weak {X : Cx} {tg e : Expr} {t t' : TI} (h : PI X tg e t) (w : ∀ σ H R, t' σ H R → t σ H R) : PI X tg e t' := ⟨fun pins s σ H R I q => h.run pins s σ H R I (w _ _ _ q)⟩

theorem bnd {α β : Type} {o : Option α} {f : α → Option β} {b : β} (h : o.bind f = some b) : ∃ a, o = some a ∧ f a = some b := Option.bind_eq_some_iff.mp h

section
variable {X : Cx} {τ : Bool}
theorem SE.up {e : Expr} {de : Ex} (h : SE X false e de) : SE X τ e de := h.weak fun σ H Q ⟨B, O, env, d, r, h1, q⟩ => ⟨B, O, env, d, r, h1, fun v H' s rv => q v H' s (rv.mono (fun _ z => Lv.mono z) (Same.keep (Same.refl _)))⟩
theorem se_var (i : Nat) {x : Str} {pos : Pos} (hN : X.N[i]? = some x := by rfl) (hv : Vis X.env.scope x := by first | exact Or.inl rfl | exact Or.inr (Or.inl rfl) | exact Or.inr (Or.inr rfl)) (hd : (x == ("__debug__" : Str)) = false := by decide)
    (hcd : (x == ("__classdict__" : Str)) = false := by decide) : SE X τ (.Name x pos) (var i) := (pe_var hN hv hd hcd).weak fun σ H Q ⟨B, O, env, d, r, h1, q⟩ => by
  unfold var at h1
  split at h1
  · rename_i d' e
    cases h1
    obtain ⟨v, h2, h3⟩ := r.vals i _ e
    exact ⟨v, h2, q v H (Same.refl H) (h3.mono (fun _ z => Lv.mono z) (Same.keep (Same.refl _)))⟩
  · cases h1
theorem se_ovar (i : Nat) {x : Str} {pos : Pos} (hN : X.N[i]? = some x := by rfl) (hv : Vis X.env.scope x := by first | exact Or.inl rfl | exact Or.inr (Or.inl rfl) | exact Or.inr (Or.inr rfl)) (hd : (x == ("__debug__" : Str)) = false := by decide)
    (hcd : (x == ("__classdict__" : Str)) = false := by decide) : SE X true (.Name x pos) (ovar i) := (pe_var hN hv hd hcd).weak fun σ H Q ⟨B, O, env, d, r, h1, q⟩ => by
  unfold ovar at h1
  split at h1
  · rename_i d' e
    cases h1
    obtain ⟨p, h2, h3, h4, h5⟩ := r.owns i _ e
    exact ⟨.ref p, h3, q _ H (Same.refl H) (h5.rep (fun _ z => Lv.mono z) ⟨.inr h4, .inl rfl⟩)⟩
  · cases h1
theorem se_int {i j pos} : SE X τ (.Constant (.int i) j pos) (cst (.int i)) := pe_int.weak fun σ H Q ⟨B, O, env, d, r, h1, q⟩ => by cases h1; exact q _ H (Same.refl H) (.int i)
theorem se_bl {i j pos} : SE X τ (.Constant (.bool i) j pos) (cst (.bl i)) := pe_bl.weak fun σ H Q ⟨B, O, env, d, r, h1, q⟩ => by cases h1; exact q _ H (Same.refl H) (.bl i)
theorem se_str {i j pos} : SE X τ (.Constant (.str i) j pos) (cst (.str i)) := pe_str.weak fun σ H Q ⟨B, O, env, d, r, h1, q⟩ => by cases h1; exact q _ H (Same.refl H) (.str i)
theorem se_imm {e : Expr} {de : Ex} (h : SE X true e de) : SE X τ e (imm de) := h.weak fun σ H Q ⟨B, O, env, d, r, h1, q⟩ => by
  obtain ⟨d', h2, h3⟩ := bnd h1
  split at h3
  · rename_i hi
    cases h3
    exact ⟨B, O, env, d, r, h2, fun v H' s rv => q v H' s (rv.immut hi)⟩
  · cases h3
theorem tOp_of {f : D → D → Option D} {a b : Ex} {K : PySem.W.Frag} {mg : Str → Option Value} {σ : L2.St} {H : Hp} {Q : VK} (h : tE K mg τ (op2 f a b) σ H Q) : tOp (rD mg f) (tE K mg τ a) (tE K mg τ b) σ H Q := by
  obtain ⟨B, O, env, d, r, h1, q⟩ := h
  obtain ⟨x, hx, h1⟩ := bnd h1
  obtain ⟨y, hy, h1⟩ := bnd h1
  refine ⟨B, O, env, x, r, hx, fun v H1 s1 r1 => ⟨B, O, env, y, r.heap s1, hy, fun w H2 s2 r2 => ?_⟩⟩
  exact ⟨_, x, y, d, ((r.heap s1).heap s2).fr, r1.same s2, r2, h1, fun v' H' s' rv => q v' H' ((s1.trans s2).trans s') rv⟩
theorem se_op2 {f : D → D → Option D} {op : Operator} {a b : Expr} {da db : Ex} {pos : Pos} (ho : OpR X (binaryOp op) (rD X.mg f)) (ha : SE X τ a da) (hb : SE X τ b db) : SE X τ (.BinOp a op b pos) (op2 f da db) := (pe_op ho ha hb).weak fun _ _ _ h => tOp_of h
theorem sa_nil : SA X τ [] aN := pa_nil.weak fun σ H Q ⟨B, O, env, ds, r, h1, q⟩ => by cases h1; exact q _ H (Same.refl H) .nil
theorem sa_cons {e : Expr} {es : List Expr} {de : Ex} {da : Ax} (he : SE X τ e de) (ha : SA X τ es da) (hs : starEach (e :: es) X.env = (false, eval e X.env) :: starEach es X.env := by rfl) : SA X τ (e :: es) (aC de da) := (pa_cons he ha hs).weak fun σ H Q ⟨B, O, env, ds, r, h1, q⟩ => by
  obtain ⟨x, hx, h1⟩ := bnd h1
  obtain ⟨xs, hxs, h1⟩ := bnd h1
  cases h1
  exact ⟨B, O, env, x, r, hx, fun v H1 s1 r1 => ⟨B, O, env, xs, r.heap s1, hxs, fun vs H2 s2 r2 => q _ H2 (s1.trans s2) (.cons (r1.same s2) r2)⟩⟩
theorem same_upd {H : Hp} {p : Addr} {o : HO} (h : H p = none) : Same H (upd H p o) := Same.of fun b u e => by rw [upd_ne (ne_of_none e h)]; exact e
theorem szL_ok {n : Nat} (h : n ≤ szL) : n ≤ sizeLine := by rw [sizeLine_eq]; exact h
theorem se_tup {es : List Expr} {da : Ax} {x1} {pos : Pos} (ha : SA X τ es da) : SE X τ (.Tuple es x1 pos) (tupE da) := (pe_tup ha).weak fun σ H Q ⟨B, O, env, d, r, h1, q⟩ => by
  obtain ⟨xs, hx, h2⟩ := bnd h1
  split at h2
  · rename_i hz
    cases h2
    refine ⟨B, O, env, xs, r, hx, fun vs H1 s1 r1 => ⟨by rw [r1.len]; exact szL_ok hz, fun p hp => ?_⟩⟩
    exact q _ _ (s1.trans (same_upd hp)) (.tup upd_same (r1.same (same_upd hp)))
  · cases h2
theorem sn_lst {es : List Expr} {da : Ax} {pos : Pos} (ha : SA X false es da) : SN X (.List es pos) (lstE da) := (pe_lst ha).weak fun σ H Q ⟨B, O, env, d, r, h1, q⟩ => by
  obtain ⟨xs, hx, h2⟩ := bnd h1
  split at h2
  · rename_i hz
    cases h2
    refine ⟨B, O, env, xs, r, hx, fun vs H1 s1 r1 => ⟨by rw [r1.len]; exact szL_ok hz, fun p hp => ?_⟩⟩
    exact q p _ (s1.trans (same_upd hp)) (Same.free s1 hp) (.lst upd_same ((Reps.ne hp r1).same (same_upd hp)))
  · cases h2
theorem SN.se {e : Expr} {de : Ex} (h : SN X e de) : SE X τ e de := h.weak fun σ H Q ⟨B, O, env, d, r, h1, q⟩ => ⟨B, O, env, d, r, h1, fun p H' s hp o => q _ H' s (o.rep (fun _ z => Lv.mono z.1) (r.fr p hp))⟩
end
end PV

namespace PV
variable [LT] [RT]
open PySem PySem.Spec PyProof.Rows L2
section
variable {K : PySem.W.Frag} {mg : Str → Option Value} {B : Bs} {H H' H1 H2 : Hp} {O O' O1 O2 : Nat → Option Addr} {σ : L2.St} {env : DEnv} {τ : Bool} {i : Nat} {v : V} {d : D} {p : Addr}
def offO (O : Nat → Option Addr) (i : Nat) : Nat → Option Addr := fun j => if j = i then none else O j
def putO (O : Nat → Option Addr) (i : Nat) (p : Addr) : Nat → Option Addr := fun j => if j = i then some p else O j
theorem offO_some {j : Nat} {p : Addr} (h : offO O i j = some p) : j ≠ i ∧ O j = some p := by
  unfold offO at h
  split at h
  · cases h
  · rename_i hj; exact ⟨hj, h⟩
theorem bd_off (h : ∃ n, ∀ j, n ≤ j → O j = none) : ∃ n, ∀ j, n ≤ j → offO O i j = none := by
  obtain ⟨n, h⟩ := h
  refine ⟨n, fun j hj => ?_⟩
  unfold offO
  split
  · rfl
  · exact h j hj
theorem bd_put (h : ∃ n, ∀ j, n ≤ j → O j = none) : ∃ n, ∀ j, n ≤ j → putO O i p j = none := by
  obtain ⟨n, h⟩ := h
  refine ⟨n + i + 1, fun j hj => ?_⟩
  unfold putO
  rw [if_neg (by omega)]
  exact h j (by omega)
theorem Lv.off {a : Addr} (h : Lv B O τ a) : Lv B (offO O i) τ a := ⟨h.1, h.2.elim .inl fun z => .inr fun j e => z j (offO_some e).2⟩
theorem keepRefl {A : Addr → Prop} {H : Hp} : Keep A H H := Same.keep (Same.refl H)
theorem get_set {α : Type} {l : List α} {i j : Nat} {x y : α} (h : (l.set i x)[j]? = some y) : (j = i ∧ y = x ∧ i < l.length) ∨ (j ≠ i ∧ l[j]? = some y) := by
  by_cases e : j = i
  · subst e
    by_cases hl : j < l.length
    · rw [List.getElem?_set_self hl] at h; cases h; exact .inl ⟨rfl, rfl, hl⟩
    · rw [List.getElem?_eq_none (by simpa using hl)] at h; cases h
  · rw [List.getElem?_set_ne (Ne.symm e)] at h
    exact .inr ⟨e, h⟩
theorem ERel.set (r : ERel K mg B O σ H env) (hv : Rep mg (Lv B O false) H v d) : ERel K mg B (offO O i) (σ.set i (some v)) H (env.set i (.val d)) := by
  have up : ∀ a, Lv B O false a → Lv B (offO O i) false a := fun a h => h.off
  refine ⟨by simp [r.len], r.same, fun j d' e => ?_, fun j d' e => ?_, fun j d' e => ?_, fun j k p a b => r.inj j k p (offO_some a).2 (offO_some b).2, fun j p a => r.trk j p (offO_some a).2, fun j p a => r.fr0 j p (offO_some a).2, bd_off r.bd, fun j p a hj => by
    obtain ⟨h1, h2⟩ := offO_some a
    rw [List.getElem?_set_ne (Ne.symm h1)]
    exact r.nst j p h2 (by simpa using hj)⟩
  · rcases get_set e with ⟨rfl, e2, hl⟩ | ⟨hj, e2⟩
    · cases e2
      exact ⟨v, List.getElem?_set_self (by rw [← r.len]; exact hl), hv.mono up keepRefl⟩
    · obtain ⟨w, h1, h2⟩ := r.vals j d' e2
      exact ⟨w, by rw [List.getElem?_set_ne (Ne.symm hj)]; exact h1, h2.mono up keepRefl⟩
  · rcases get_set e with ⟨rfl, e2, hl⟩ | ⟨hj, e2⟩
    · cases e2
    · obtain ⟨p, h1, h2, h3, h4⟩ := r.owns j d' e2
      exact ⟨p, by unfold offO; rw [if_neg hj]; exact h1, by rw [List.getElem?_set_ne (Ne.symm hj)]; exact h2, h3, h4.mono up keepRefl fun _ z => z⟩
  · rcases get_set e with ⟨rfl, e2, hl⟩ | ⟨hj, e2⟩
    · cases e2
    · obtain ⟨h1, h2, h4⟩ := r.slfs j d' e2
      exact ⟨by unfold offO; rw [if_neg hj]; exact h1, by rw [List.getElem?_set_ne (Ne.symm hj)]; exact h2, h4.mono up keepRefl fun _ z => z⟩
theorem Fm.off (a : Fm O H O' H') : Fm O H (offO O' i) H' := ⟨a.keep, a.tab, a.dom, fun j b e => a.sub j b (offO_some e).2⟩
theorem ERel.setOwn (r : ERel K mg B O σ H env) (s : Same H H') (hp : H p = none) (ho : Own mg (fun a => Lv B O false a ∧ a ≠ p) H' p d) :
    ERel K mg B (putO O i p) (σ.set i (some (.ref p))) H' (env.set i (.own d)) ∧ Fm O H (putO O i p) H' := by
  have nO : ∀ j, O j ≠ some p := fun j e => by
    obtain ⟨o, z, _⟩ := r.trk j p e
    rw [hp] at z; cases z
  have up : ∀ a, (Lv B O false a ∧ a ≠ p) → Lv B (putO O i p) false a := fun a h => ⟨h.1.1, .inr fun j e => by
    unfold putO at e
    split at e
    · exact h.2 (Option.some.inj e).symm
    · exact (h.1.2.elim (fun z => Bool.noConfusion z) fun z => z) j e⟩
  have h0 : B.H0 p = none := Same.free r.same hp
  refine ⟨⟨by simp [r.len], r.same.trans s, fun j d' e => ?_, fun j d' e => ?_, fun j d' e => ?_, fun j k q a b => ?_, fun j q a => ?_, fun j q a => ?_, bd_put r.bd, fun j q a hj => ?_⟩, ⟨fun b o _ e _ => s b o e, s.tab, s.dom, fun j b e => ?_⟩⟩
  · rcases get_set e with ⟨rfl, e2, hl⟩ | ⟨hj, e2⟩
    · cases e2
    · obtain ⟨w, h1, h2⟩ := r.vals j d' e2
      exact ⟨w, by rw [List.getElem?_set_ne (Ne.symm hj)]; exact h1, ((Rep.ne hp h2).mono up keepRefl).same s⟩
  · rcases get_set e with ⟨rfl, e2, hl⟩ | ⟨hj, e2⟩
    · cases e2
      exact ⟨p, by unfold putO; rw [if_pos rfl], List.getElem?_set_self (by rw [← r.len]; exact hl), h0, ho.mono up keepRefl fun _ z => z⟩
    · obtain ⟨q, h1, h2, h3, h4⟩ := r.owns j d' e2
      refine ⟨q, by unfold putO; rw [if_neg hj]; exact h1, by rw [List.getElem?_set_ne (Ne.symm hj)]; exact h2, h3, ?_⟩
      cases h4 with
      | lst h r => exact .lst (s _ _ h) (((Reps.ne hp r).mono up keepRefl).same s)
      | dicK h r => exact .dicK (s _ _ h) (((Reps.ne hp r).mono up keepRefl).same s)
      | dicT h r => exact .dicT (s _ _ h) (((Reps.ne hp r).mono up keepRefl).same s)
      | ins h c r => exact .ins (s _ _ h) c (((Reps.ne hp r).mono up keepRefl).same s)
  · rcases get_set e with ⟨rfl, e2, hl⟩ | ⟨hj, e2⟩
    · cases e2
    · obtain ⟨h1, h2, h4⟩ := r.slfs j d' e2
      refine ⟨by unfold putO; rw [if_neg hj]; exact h1, by rw [List.getElem?_set_ne (Ne.symm hj)]; exact h2, ?_⟩
      cases h4 with
      | lst h r => exact .lst (s _ _ h) (((Reps.ne hp r).mono up keepRefl).same s)
      | dicK h r => exact .dicK (s _ _ h) (((Reps.ne hp r).mono up keepRefl).same s)
      | dicT h r => exact .dicT (s _ _ h) (((Reps.ne hp r).mono up keepRefl).same s)
      | ins h c r => exact .ins (s _ _ h) c (((Reps.ne hp r).mono up keepRefl).same s)
  · unfold putO at a b
    split at a <;> split at b
    · rename_i e1 e2; exact e1.trans e2.symm
    · cases a; exact absurd b (nO _)
    · cases b; exact absurd a (nO _)
    · exact r.inj j k q a b
  · unfold putO at a
    split at a
    · cases a
      cases ho with
      | lst h r => exact ⟨_, h, trivial⟩
      | dicK h r => exact ⟨_, h, trivial⟩
      | dicT h r => exact ⟨_, h, trivial⟩
      | ins h c r => exact ⟨_, h, trivial⟩
    · obtain ⟨o, z, w⟩ := r.trk j q a
      haveI := Wr.nt w
      exact ⟨o, s _ _ z, w⟩
  · unfold putO at a
    split at a
    · cases a; exact h0
    · exact r.fr0 j q a
  · unfold putO at a
    by_cases ej : j = i
    · subst ej
      exact ⟨d, .inl (List.getElem?_set_self (by simpa using hj))⟩
    · rw [if_neg ej] at a
      rw [List.getElem?_set_ne (Ne.symm ej)]
      exact r.nst j q a (by simpa using hj)
  · unfold putO at e
    split at e
    · cases e; exact .inr hp
    · exact .inl ⟨j, e⟩
theorem tabS_upd {H : Hp} {p P : Addr} {q : Str} {o o' : HO} (hp : H p = some o) (w : Wr o) (t : LamX.TabS H P q) : LamX.TabS (upd H p o') P q := by
  obtain ⟨ps, h1, h2, h3⟩ := t
  have ne : P ≠ p := fun e => by subst e; rw [hp] at h1; cases h1; exact w
  refine ⟨ps, by rw [upd_ne ne]; exact h1, h2, fun pos cv hc => ?_⟩
  obtain ⟨c, e1, e2⟩ := h3 pos cv hc
  have nc : c ≠ p := fun e => by subst e; rw [hp] at e2; cases e2; exact w _ _ rfl
  exact ⟨c, e1, by rw [upd_ne nc]; exact e2⟩
theorem dom_upd {H : Hp} {p b : Addr} {o' : HO} (h : upd H p o' b = Option.none) : H b = Option.none := by
  by_cases e : b = p
  · subst e; rw [upd_same] at h; cases h
  · rw [upd_ne e] at h; exact h
theorem Same.put {H H' : Hp} {p : Addr} {o o' : HO} (s : Same H H') (h0 : H p = Option.none) (hp : H' p = some o) (w : Wr o) : Same H (upd H' p o') :=
  ⟨fun b ob z _ => by rw [upd_ne (ne_of_none z h0)]; exact s b ob z, fun t p2 hp2 => tabS_upd hp w (s.tab t p2 hp2), fun b h => s.dom b (dom_upd h)⟩
theorem keep_write {o' : HO} (r : ERel K mg B O σ H env) (hO : O i = some p) : Keep (Lv B O false) H (upd H p o') := by
  obtain ⟨o, hp, w⟩ := r.trk i p hO
  have ne : ∀ a, Lv B O false a → a ≠ p := fun a h e => by
    subst e
    exact h.2.elim (fun z => Bool.noConfusion z) fun z => z i hO
  refine ⟨fun a u ha _ h => ?_, fun a C dx fs ha h => by rw [upd_ne (ne a ha)]; exact h, fun a xs ha h => by rw [upd_ne (ne a ha)]; exact h, fun a xs h => ?_, fun a ob xs h => ?_⟩
  · rcases h with h | ⟨ob, h⟩
    · exact .inl (by rw [upd_ne (ne a ha)]; exact h)
    · exact .inr ⟨ob, by rw [upd_ne (ne a ha)]; exact h⟩
  · have nt : a ≠ p := fun e => by
      subst e
      rw [hp] at h; cases h; exact w
    rw [upd_ne nt]; exact h
  · have nt : a ≠ p := fun e => by
      subst e
      rw [hp] at h; cases h; exact w
    rw [upd_ne nt]; exact h
theorem ERel.write {o' : HO} {d' : D} (r : ERel K mg B O σ H env) (hO : O i = some p) (hs : σ[i]? = some (some (.ref p))) (ho : Own mg (Lv B O false) (upd H p o') p d') (hw : Wr o') :
    ERel K mg B O σ (upd H p o') (env.set i (.own d')) ∧ Fm O H O (upd H p o') := by
  have k : Keep (Lv B O false) H (upd H p o') := keep_write r hO
  have h0 := r.fr0 i p hO
  obtain ⟨o0, hp0, w0⟩ := r.trk i p hO
  refine ⟨⟨by simp [r.len], ⟨fun b o e _ => ?_, fun t p2 hp2 => tabS_upd hp0 w0 (r.same.tab t p2 hp2), fun b h => r.same.dom b (dom_upd h)⟩, fun j d2 e => ?_, fun j d2 e => ?_, fun j d2 e => ?_, r.inj, fun j q a => ?_, r.fr0, r.bd, fun j q a hj => by
    by_cases ej : j = i
    · subst ej
      exact ⟨d', .inl (List.getElem?_set_self (by simpa using hj))⟩
    · rw [List.getElem?_set_ne (Ne.symm ej)]
      exact r.nst j q a (by simpa using hj)⟩, ⟨fun b o hb e _ => by rw [upd_ne (fun z => hb i (by rw [z]; exact hO))]; exact e, fun t p2 hp2 => tabS_upd hp0 w0 (t p2 hp2), fun b h => dom_upd h, fun j b e => .inl ⟨j, e⟩⟩⟩
  · rw [upd_ne (ne_of_none e h0)]; exact r.same b o e
  · rcases get_set e with ⟨rfl, e2, hl⟩ | ⟨hj, e2⟩
    · cases e2
    · obtain ⟨w, h1, h2⟩ := r.vals j d2 e2
      exact ⟨w, h1, h2.mono (fun _ z => z) k⟩
  · rcases get_set e with ⟨rfl, e2, hl⟩ | ⟨hj, e2⟩
    · cases e2
      exact ⟨p, hO, hs, h0, ho⟩
    · obtain ⟨q, h1, h2, h3, h4⟩ := r.owns j d2 e2
      have nq : q ≠ p := fun z => hj (r.inj j i p (z ▸ h1) hO)
      exact ⟨q, h1, h2, h3, h4.mono (fun _ z => z) k fun o z _ => by rw [upd_ne nq]; exact z⟩
  · rcases get_set e with ⟨rfl, e2, hl⟩ | ⟨hj, e2⟩
    · cases e2
    · obtain ⟨h1, h2, h4⟩ := r.slfs j d2 e2
      have nq : B.sf ≠ p := fun z => hj (r.inj j i p (z ▸ h1) hO)
      exact ⟨h1, h2, h4.mono (fun _ z => z) k fun o z _ => by rw [upd_ne nq]; exact z⟩
  · by_cases e : q = p
    · subst e; exact ⟨o', upd_same, hw⟩
    · obtain ⟨o, z, w⟩ := r.trk j q a
      exact ⟨o, by rw [upd_ne e]; exact z, w⟩
theorem PostS.trans {D : Ends} {r : DRes} (f : Fm O H O1 H1) (h : PostS K mg B O H D r) : PostS K mg B O1 H1 D r := by
  cases r with
  | nx e => exact fun σ' H' O' q g => h σ' H' O' q (f.trans g)
  | bk e => exact fun σ' H' O' q g => h σ' H' O' q (f.trans g)
  | ct e => exact fun σ' H' O' q g => h σ' H' O' q (f.trans g)
  | ret d => exact h
mutual
def tgR (K : PySem.W.Frag) : Tg → TG
  | .n i => gName i
  | .t l => gTup K l.length (tgRs K l)
def tgRs (K : PySem.W.Frag) : List Tg → TGs
  | [] => gNil
  | g :: gs => gCons (tgR K g) (tgRs K gs)
end
mutual
theorem gDs_len : ∀ {l : List Tg} {ds : List D} {e e' : DEnv}, gDs l ds e = some e' → ds.length = l.length
  | [], [], _, _, _ => rfl
  | [], _ :: _, _, _, h => by simp [gDs] at h
  | g :: gs, [], _, _, h => by simp [gDs] at h
  | g :: gs, d :: ds, _, _, h => by
    simp only [gDs] at h
    obtain ⟨e1, _, h2⟩ := bnd h
    exact congrArg (· + 1) (gDs_len h2)
end
def Only1 (σ σ' : L2.St) (ws : List Nat) : Prop := ∀ vs : List Nat, (∀ i ∈ ws, i ∈ vs) → wipe σ' vs = wipe σ vs
theorem wipe_set {σ : L2.St} {x : Option V} : ∀ {vs : List Nat} {i : Nat}, i ∈ vs → wipe (σ.set i x) vs = wipe σ vs
  | w :: ws, i, h => by
    unfold wipe
    by_cases e : i ∈ ws
    · rw [wipe_set e]
    · have hi : i = w := by simpa [e] using h
      subst hi
      clear h
      have : ∀ (us : List Nat), i ∉ us → wipe (σ.set i x) us = (wipe σ us).set i x := by
        intro us
        induction us with
        | nil => intro _; rfl
        | cons u us ih =>
          intro hn
          have h1 : i ≠ u := fun z => hn (by simp [z])
          have h2 : i ∉ us := fun z => hn (by simp [z])
          unfold wipe
          rw [ih h2, List.set_comm _ _ h1]
      rw [this ws e]
      rw [List.set_set]
mutual
theorem tgR_ok : ∀ (g : Tg) {O : Nat → Option Addr} {σ : L2.St} {env env' : DEnv} {v : V} {d : D} {H : Hp} {Q : L2.St → Hp → Prop}, ERel K mg B O σ H env → Rep mg (Lv B O false) H v d → gD g d env = some env' →
    (∀ σ' O', ERel K mg B O' σ' H env' → Fm O H O' H → Only1 σ σ' g.slots → Q σ' H) → tgR K g v σ H Q
  | .n i, O, σ, env, env', v, d, H, Q, r, rv, e, q => by
    simp only [gD, Option.some.injEq] at e
    subst e
    exact q _ _ (ERel.set r rv) (Fm.of_same (Same.refl H)).off fun vs hv => wipe_set (hv i (by simp [Tg.slots]))
  | .t l, O, σ, env, env', v, d, H, Q, r, rv, e, q => by
    cases d <;> simp only [gD, reduceCtorEq] at e
    rename_i xs
    cases rv with
    | tup hs rs =>
      refine ⟨_, _, rfl, .inl (.inl hs), by rw [rs.len]; exact gDs_len e, ?_⟩
      exact tgRs_ok l r rs e q
theorem tgRs_ok : ∀ (l : List Tg) {O : Nat → Option Addr} {σ : L2.St} {env env' : DEnv} {vs : List V} {ds : List D} {H : Hp} {Q : L2.St → Hp → Prop}, ERel K mg B O σ H env → Reps mg (Lv B O false) H vs ds → gDs l ds env = some env' →
    (∀ σ' O', ERel K mg B O' σ' H env' → Fm O H O' H → Only1 σ σ' (Tg.slotss l) → Q σ' H) → tgRs K l vs σ H Q
  | [], O, σ, env, env', vs, ds, H, Q, r, rs, e, q => by
    cases ds with
    | nil =>
      simp only [gDs, Option.some.injEq] at e
      subst e
      cases rs
      exact ⟨rfl, q _ _ r (Fm.of_same (Same.refl H)) fun _ _ => rfl⟩
    | cons _ _ => simp [gDs] at e
  | g :: gs, O, σ, env, env', vs, ds, H, Q, r, rs, e, q => by
    cases ds with
    | nil => simp [gDs] at e
    | cons d ds =>
      simp only [gDs] at e
      obtain ⟨e1, h1, h2⟩ := bnd e
      cases rs with
      | cons rv rs =>
        refine ⟨_, _, rfl, tgR_ok g r rv h1 fun σ1 O1 r1 f1 w1 => ?_⟩
        have keep : ∀ a, Lv B O false a → (∃ o, H a = some o) → Lv B O1 false a := fun a h ho => ⟨h.1, .inr fun j z => by
          rcases f1.sub j a z with ⟨i, q⟩ | q
          · exact h.2.elim (fun z => Bool.noConfusion z) (fun z => z i q)
          · obtain ⟨o, ho⟩ := ho; rw [q] at ho; cases ho⟩
        refine tgRs_ok gs r1 (Reps.keepT keep rs) h2 fun σ2 O2 r2 f2 w2 => q _ _ r2 (f1.trans f2) fun vs hv => ?_
        simp only [Tg.slotss, List.mem_append] at hv
        rw [w2 vs fun i hi => hv i (.inr hi), w1 vs fun i hi => hv i (.inl hi)]
end
end
section
variable {X : Cx} {τ : Bool}
theorem ss_nil : SSs X [] skip := pss_nil.weak fun D σ H ⟨B, O, env, r, rl, h1, q⟩ => by
  cases h1
  exact q σ H O rl (Fm.of_same (Same.refl H))
theorem seq_of {K : PySem.W.Frag} {mg : Str → Option Value} {D : Ends} {σ : L2.St} {H : Hp} {a b : Sx} (h : tS K mg (sq a b) D σ H) : tSeq (tS K mg a) (tS K mg b) D σ H := by
  obtain ⟨B, O, env, r, rl, h1, q⟩ := h
  obtain ⟨ra, ha, h2⟩ := bnd h1
  refine ⟨B, O, env, ra, rl, ha, ?_⟩
  cases ra with
  | nx e' => exact fun σ' H' O' rl' f => ⟨B, O', e', r, rl', h2, q.trans f⟩
  | bk e' => cases h2; exact q
  | ct e' => cases h2; exact q
  | ret d => cases h2; exact q
theorem ss_cons {st : Stmt} {rest : List Stmt} {a b : Sx} (h1 : SS X st a) (h2 : SSs X rest b) : SSs X (st :: rest) (sq a b) := (pss_cons h1 h2).weak fun _ _ _ h => seq_of h
theorem ss_one {st : Stmt} {a : Sx} (h1 : SS X st a) : SSs X [st] a := pss_one h1
theorem s_ret {e : Expr} {de : Ex} {pos : Pos} (he : SE X true e de) (hn : RT.nw = false := by rfl) : SS X (.Return (some e) pos) (rt de) := (ps_ret he).weak fun D σ H ⟨B, O, env, r, rl, h1, q⟩ => by
  obtain ⟨d, hd, h2⟩ := bnd h1
  cases h2
  exact ⟨B, O, env, d, rl, hd, fun v H' s rv => q v H' (rl.same.trans s) (retP_of hn (rv.mono (fun _ z => ⟨z.1, .inl rfl⟩) keepRefl))⟩
theorem s_if {c : Expr} {a b : List Stmt} {t : Tx} {da db : Sx} {pos : Pos} (hc : ST X c t) (ha : SSs X a da) (hb : SSs X b db) : SS X (.If c a b pos) (ifS t da db) := (ps_if hc ha hb).weak fun D σ H ⟨B, O, env, r, rl, h1, q⟩ => by
  obtain ⟨d, hd, h2⟩ := bnd h1
  refine ⟨B, O, env, d, rl, hd, fun H' s => ?_⟩
  cases d with
  | true => exact iteT ⟨B, O, env, r, rl.heap s, h2, q.trans (Fm.of_same s)⟩
  | false => exact iteF ⟨B, O, env, r, rl.heap s, h2, q.trans (Fm.of_same s)⟩
def PT1 (X : Cx) (tg : Expr) (g : Tg) : Prop := PG X tg (tgR X.K g)
def PTs1 (X : Cx) (tg : List Expr) (g : List Tg) : Prop := PGs X tg (tgRs X.K g)
theorem g_n (i : Nat) {x : Str} {pos : Pos} (hN : X.N.Nodup) (hi : X.N[i]? = some x := by rfl) (hx : Loc X.env.scope x := by first | exact Or.inl rfl | exact Or.inr rfl) (hf : X.fn x = true ∨ X.env.scope.names.lookup x = some .local := by first | exact .inl rfl | exact .inr rfl | assumption) : PT1 X (.Name x pos) (.n i) := pg_name hN hi hx hf
theorem g_t {es : List Expr} {k : Nat} {l : List Tg} {pos : Pos} (hc : X.calm = true) (h : PTs1 X es l)
    (hn : (assignEach es X.env).length = l.length := by rfl) (hst : (assignEach es X.env).findIdx? (·.1) = none := by rfl) : PT1 X (.Tuple es k pos) (.t l) := pg_tup hc h hn hst
theorem gs_nil : PTs1 X [] [] := pgs_nil
theorem gs_cons {e : Expr} {es : List Expr} {g : Tg} {l : List Tg} (h1 : PT1 X e g) (h2 : PTs1 X es l)
    (hs : (assignEach (e :: es) X.env).map (·.2) = assign e X.env :: (assignEach es X.env).map (·.2) := by rfl) : PTs1 X (e :: es) (g :: l) := pgs_cons h1 h2 hs
theorem s_asg {tg e : Expr} {de : Ex} {g : Tg} {pos : Pos} (he : SE X false e de) (hg : PT1 X tg g) (hs : swapsWithSole [tg] e pos.line X.env = pure false := by rfl) (hw : swappedStores [tg] e X.env = pure none := by rfl)
    (h1 : (assignEach [tg] X.env).map (·.2) = [assign tg X.env] := by rfl) : SS X (.Assign [tg] e pos) (asg g de) := (ps_asg he hg hs hw h1).weak fun D σ H ⟨B, O, env, r, rl, h1, q⟩ => by
  obtain ⟨d, hd, h2⟩ := bnd h1
  obtain ⟨e', he', h3⟩ := bnd h2
  cases h3
  exact ⟨B, O, env, d, rl, hd, fun v H1 s rv => tgR_ok g (rl.heap s) rv he' fun σ' O' r' f' _ => q σ' H1 O' r' ((Fm.of_same s).trans f')⟩
theorem s_set {i : Nat} {x : Str} {e : Expr} {de : Ex} {pos pos' : Pos} (hN : X.N.Nodup) (he : SE X false e de) (hi : X.N[i]? = some x := by rfl) (hx : Loc X.env.scope x := by first | exact Or.inl rfl | exact Or.inr rfl) (hs : swapsWith e (some (.Name x pos')) pos.line X.env = pure false := by rfl) (hf : X.fn x = true ∨ X.env.scope.names.lookup x = some .local := by first | exact .inl rfl | exact .inr rfl | assumption) :
    SS X (.Assign [.Name x pos'] e pos) (setE i de) := (ps_set hN hi hx he hs hf).weak fun D σ H ⟨B, O, env, r, rl, h1, q⟩ => by
  obtain ⟨d, hd, h2⟩ := bnd h1
  cases h2
  exact ⟨B, O, env, d, rl, hd, fun v H1 s rv => q _ H1 _ (ERel.set (rl.heap s) rv) ((Fm.of_same s).trans (Fm.of_same (Same.refl H1)).off)⟩
theorem s_new {i : Nat} {x : Str} {e : Expr} {de : Ex} {pos pos' : Pos} (hN : X.N.Nodup) (he : SN X e de) (hi : X.N[i]? = some x := by rfl) (hx : Loc X.env.scope x := by first | exact Or.inl rfl | exact Or.inr rfl) (hs : swapsWith e (some (.Name x pos')) pos.line X.env = pure false := by rfl) (hf : X.fn x = true ∨ X.env.scope.names.lookup x = some .local := by first | exact .inl rfl | exact .inr rfl | assumption) :
    SS X (.Assign [.Name x pos'] e pos) (newE i de) := (ps_set hN hi hx he hs hf).weak fun D σ H ⟨B, O, env, r, rl, h1, q⟩ => by
  obtain ⟨d, hd, h2⟩ := bnd h1
  cases h2
  exact ⟨B, O, env, d, rl, hd, fun p H1 s hp o => let z := ERel.setOwn (i := i) rl s hp o; q _ H1 _ z.1 z.2⟩
theorem ss_frz (j : Nat) {sts : List Stmt} {b : Sx} (h : SSs X sts b) : SSs X sts (frz j b) := h.weak fun D σ H ⟨B, O, env, r, rl, h1, q⟩ => by
  unfold frz at h1
  split at h1
  · rename_i d e
    obtain ⟨p, h2, h3, h4, h5⟩ := rl.owns j d e
    have hl : j < env.length := (List.getElem?_eq_some_iff.mp e).1
    have rv : Rep X.mg (Lv B (offO O j) false) H (.ref p) d := h5.rep (fun _ z => z.off) ⟨.inr h4, .inr fun k z => (offO_some z).1 (rl.inj k j p (offO_some z).2 h2)⟩
    have r' : ERel X.K X.mg B (offO O j) σ H (env.set j (.val d)) := by
      have up : ∀ a, Lv B O false a → Lv B (offO O j) false a := fun a h => h.off
      refine ⟨by simp [rl.len], rl.same, fun k d' e => ?_, fun k d' e => ?_, fun k d' e => ?_, fun k l p a b => rl.inj k l p (offO_some a).2 (offO_some b).2, fun k p a => rl.trk k p (offO_some a).2, fun k p a => rl.fr0 k p (offO_some a).2, bd_off rl.bd, fun k p a hk => by
        obtain ⟨h1, h2⟩ := offO_some a
        rw [List.getElem?_set_ne (Ne.symm h1)]
        exact rl.nst k p h2 (by simpa using hk)⟩
      · rcases get_set e with ⟨rfl, e2, hl⟩ | ⟨hj, e2⟩
        · cases e2
          exact ⟨_, h3, rv⟩
        · obtain ⟨w, h1, h2⟩ := rl.vals k d' e2
          exact ⟨w, h1, h2.mono up keepRefl⟩
      · rcases get_set e with ⟨rfl, e2, hl⟩ | ⟨hj, e2⟩
        · cases e2
        · obtain ⟨p, h1, h2, h3, h4⟩ := rl.owns k d' e2
          exact ⟨p, by unfold offO; rw [if_neg hj]; exact h1, h2, h3, h4.mono up keepRefl fun _ z => z⟩
      · rcases get_set e with ⟨rfl, e2, hl⟩ | ⟨hj, e2⟩
        · cases e2
        · obtain ⟨h1, h2, h4⟩ := rl.slfs k d' e2
          exact ⟨by unfold offO; rw [if_neg hj]; exact h1, h2, h4.mono up keepRefl fun _ z => z⟩
    exact ⟨B, offO O j, _, r, r', h1, q.trans (Fm.of_same (Same.refl H)).off⟩
  · cases h1
theorem fm_keep {K : PySem.W.Frag} {mg : Str → Option Value} {B : Bs} {H H' : Hp} {O O' : Nat → Option Addr} {σ : L2.St} {env : DEnv} (rl : ERel K mg B O σ H env) (f : Fm O H O' H') : Keep (Lv B O false) H H' := by
  have out : ∀ a, Lv B O false a → ∀ j, O j ≠ some a := fun a h => h.2.elim (fun z => Bool.noConfusion z) fun z => z
  refine ⟨fun a u ha _ h => ?_, fun a C dx fs ha h => f.keep a _ (out a ha) h, fun a xs ha h => f.keep a _ (out a ha) h, fun a xs h => ?_, fun a ob xs h => ?_⟩
  · rcases h with h | ⟨o, h⟩
    · exact .inl (f.keep a _ (out a ha) h)
    · exact .inr ⟨o, f.keep a _ (out a ha) h⟩
  · have nt : ∀ j, O j ≠ some a := fun j e => by
      obtain ⟨o, z, w⟩ := rl.trk j a e
      rw [h] at z; cases z; exact w
    exact f.keep a _ nt h
  · have nt : ∀ j, O j ≠ some a := fun j e => by
      obtain ⟨o, z, w⟩ := rl.trk j a e
      rw [h] at z; cases z; exact w
    exact f.keep a _ nt h
theorem lv_sub {B : Bs} {H H' : Hp} {O O' : Nat → Option Addr} {a : Addr} (f : Fm O H O' H') (h : Lv B O false a) (ho : ∃ o, H a = some o) : Lv B O' false a := ⟨h.1, .inr fun j z => by
  rcases f.sub j a z with ⟨i, q⟩ | q
  · exact h.2.elim (fun z => Bool.noConfusion z) (fun z => z i q)
  · obtain ⟨o, ho⟩ := ho; rw [q] at ho; cases ho⟩
theorem s_for {tg iter : Expr} {body : List Stmt} {di : Ax} {g : Tg} {db : Sx} {pos : Pos} (hp : PassesOwn (model X.prog X.w) X.A X.env X.xe) (hc : X.calm = true) (hi : SI X tg iter di) (hg : PT1 X tg g) (hb : SSs X body db)
    (hs : ∀ x, foldedSetIterable iter X.env x = pure x := by intro _; rfl) : SS X (.For tg iter body [] pos) (forE di g db) := (ps_for hp hc hi hg hb hs).weak fun D σ H ⟨B, O, env, r, rl, h1, q⟩ => by
  obtain ⟨ds, hd, h2⟩ := bnd h1
  refine ⟨B, O, env, ds, rl, hd, fun J H1 s1 wk => ?_⟩
  have rl1 := rl.heap s1
  have q1 := q.trans (Fm.of_same s1)
  refine ⟨fun i m σ' H' => m = ds.length - i ∧ i ≤ ds.length ∧ ∃ O' env', ERel X.K X.mg B O' σ' H' env' ∧ Fm O H1 O' H' ∧ loop (gD g) db (ds.drop i) env' = some r, ⟨ds.length, by simp, Nat.zero_le _, O, env, rl1, Fm.of_same (Same.refl H1), by simpa using h2⟩, ?_⟩
  rintro i m σ' H' ⟨rfl, hi', O', env', rl', f', hl⟩
  have kp : Keep (fun a => Lv B O false a ∧ ∃ o, H1 a = some o) H1 H' := let k := fm_keep rl1 f'; ⟨fun a u ha _ h => k.rd a u ha.1 h, fun a C dx fs ha h => k.ins a C dx fs ha.1 h, fun a xs ha h => k.lst a xs ha.1 h, k.tup, k.fz⟩
  by_cases hlt : i < ds.length
  · have hx : ds[i]? = some ds[i] := List.getElem?_eq_getElem hlt
    obtain ⟨go, yl⟩ := (wk i H' kp).1 _ hx
    rw [List.drop_eq_getElem_cons hlt] at hl
    unfold loop at hl
    obtain ⟨e1, he1, hl⟩ := bnd hl
    obtain ⟨r1, hr1, hl⟩ := bnd hl
    refine .inr ⟨go, fun σ'' H'' => ∃ O'' env'', ERel X.K X.mg B O'' σ'' H'' env'' ∧ Fm O H1 O'' H'' ∧ loop (gD g) db (ds.drop (i + 1)) env'' = some r, fun σ'' H'' ⟨O'', env'', z⟩ => ⟨ds.length - (i + 1), by omega, rfl, hlt, O'', env'', z⟩, fun v H3 y => ?_⟩
    obtain ⟨s3, rv⟩ := yl v H3 y
    have rl3 := rl'.heap s3
    have f3 := f'.trans (Fm.of_same s3)
    have rv' : Rep X.mg (Lv B O' false) H3 v ds[i] := by
      exact rv.mono (fun a ha => lv_sub f' ha.1 ha.2) keepRefl
    refine tgR_ok g rl3 rv' he1 fun σ4 O4 r4 f4 _ => ⟨B, O4, e1, r1, r4, hr1, ?_⟩
    have f5 := f3.trans f4
    cases r1 with
    | nx e2 => exact fun σ6 H6 O6 rl6 f6 => ⟨O6, e2, rl6, f5.trans f6, hl⟩
    | ct e2 => exact fun σ6 H6 O6 rl6 f6 => ⟨O6, e2, rl6, f5.trans f6, hl⟩
    | bk e2 =>
      cases hl
      exact fun σ6 H6 O6 rl6 f6 => q1 σ6 H6 O6 rl6 (f5.trans f6)
    | ret d =>
      cases hl
      exact q1
  · have hn : ds[i]? = none := List.getElem?_eq_none (by omega)
    have hdr : ds.drop i = [] := List.drop_eq_nil_of_le (by omega)
    rw [hdr] at hl
    unfold loop at hl
    cases hl
    exact .inl ⟨(wk i H' kp).2 hn, q1 σ' H' O' rl' f'⟩
end
end PV

namespace PV
variable [LT] [RT]
open PySem PySem.Spec PyProof.Rows L2
theorem start_get {N : List Str} {vs : List V} {ds : List D} (hv : vs.length = ds.length) (hN : ds.length ≤ N.length) :
    (ds.map DSlot.val ++ List.replicate (N.length - ds.length) DSlot.no).length = (L2.start N vs).length := by
  unfold L2.start
  simp [hv]
theorem erel_start {K : PySem.W.Frag} {mg : Str → Option Value} {A : Addr → Prop} {H : Hp} {N : List Str} {vs : List V} {ds : List D} (sf : Addr) (fr : Fr A H) (r : Reps mg A H vs ds) (hN : ds.length ≤ N.length) :
    ERel K mg ⟨H, A, sf, fr.tb⟩ (fun _ => none) (L2.start N vs) H (ds.map DSlot.val ++ List.replicate (N.length - ds.length) DSlot.no) := by
  have own : ∀ (i : Nat) (x : DSlot), (ds.map DSlot.val ++ List.replicate (N.length - ds.length) DSlot.no)[i]? = some x → (∃ d, x = .val d ∧ ds[i]? = some d ∧ i < ds.length) ∨ x = .no := fun i x e => by
    by_cases hi : i < ds.length
    · rw [List.getElem?_append_left (by simpa using hi), List.getElem?_map, List.getElem?_eq_getElem hi] at e
      exact .inl ⟨ds[i], (Option.some.inj e).symm, List.getElem?_eq_getElem hi, hi⟩
    · rw [List.getElem?_append_right (by simpa using hi), List.getElem?_replicate] at e
      split at e
      · exact .inr (Option.some.inj e).symm
      · cases e
  refine ⟨start_get r.len hN, Same.refl H, fun i d e => ?_, fun i d e => ?_, fun i d e => ?_, fun i j p a _ => (nomatch a), fun i p a => (nomatch a), fun i p a => (nomatch a), ⟨0, fun _ _ => rfl⟩, fun i p a => (nomatch a)⟩
  · rcases own i _ e with ⟨d', e2, e3, hi⟩ | e2
    · cases e2
      obtain ⟨v, h1, h2⟩ := r.get e3
      refine ⟨v, ?_, h2.mono (fun a h => ⟨.inl h, .inr fun j z => by cases z⟩) keepRefl⟩
      unfold L2.start
      rw [List.getElem?_append_left (by rw [List.length_map, r.len]; exact hi), List.getElem?_map, h1]
      rfl
    · cases e2
  · rcases own i _ e with ⟨d', e2, _⟩ | e2 <;> cases e2
  · rcases own i _ e with ⟨d', e2, _⟩ | e2 <;> cases e2
section
variable {P : Program} {w : World} {K : PySem.W.Frag} {mg : Str → Option Value} {base : Heap}
theorem fn_sound {x qual : Str} {args : Arguments} {body : List Stmt} {sc : Scope} {f : Addr} {fd : FuncData} {N ps : List Str} {k : Nat} {db : Sx} (F : FunD K x qual args body sc [] [] f fd) (S : FnScope N ps sc)
    (hb : ∀ (cdv : Value) (A : Around) (outer : List Env) (s : Shared) (H : Hp), Room k (A.deeper (envOfC qual sc s.heap.objs.size f cdv)) → SSs (cxOf CX0 P w K mg base N qual sc f cdv A outer s H E0).nox body db) (hso : RT.so = false := by rfl) :
    FnOk P w K mg base CX0 (k + 1) f fd ps (spD mg (fnc ps.length N.length db)) := by
  have hpl : ps.length ≤ N.length := by have := congrArg List.length S.pre; rw [List.length_take] at this; omega
  refine F.ok S (fun vs H Q E h => ?_) fun cdv A outer s H vs Q E hr h => ?_
  · obtain ⟨A, ds, d, fr, r, e, q⟩ := h
    unfold fnc at e
    split at e
    · rename_i hl; rw [r.len, hl]
    · cases e
  · refine ⟨tS K mg db, PSs.nox (hb cdv A outer s H hr), ?_⟩
    obtain ⟨A1, ds, d, fr, r, e, q⟩ := h
    unfold fnc at e
    split at e
    · rename_i hl
      obtain ⟨rs, h1, h2⟩ := bnd e
      have rl := erel_start (K := K) (N := N) 0 fr r (by rw [hl]; exact hpl)
      refine ⟨_, _, _, rs, rl, by rw [hl]; exact h1, ?_⟩
      cases rs with
      | nx e' =>
        cases h2
        exact fun σ' H' O' rl' f' => q _ H' rl'.same .non
      | ret d' =>
        cases h2
        exact fun v H' s' rv => q v H' s' ((retP_rep hso rv).mono (fun a h => h.1.elim id fun z => fr a z) keepRefl)
      | bk e' => cases h2
      | ct e' => cases h2
    · cases e
structure CallOk (P : Program) (w : World) (K : PySem.W.Frag) (mg : Str → Option Value) (base : Heap) (k : Nat) (x : Str) (F : Fn) : Prop where
  ex : ∃ f fd ps, FnOk P w K mg base CX0 k f fd ps (spD mg F) ∧ mg x = some (.ref f) ∧ PySem.W.keepIn K (.ref f) = true ∧ Binds K fd ps []
theorem CallOk.up {j k : Nat} {x : Str} {F : Fn} (c : CallOk P w K mg base j x F) (h : j ≤ k) : CallOk P w K mg base k x F :=
  let ⟨f, fd, ps, a, b, c, d⟩ := c.ex; ⟨f, fd, ps, a.mono h, b, c, d⟩
structure MethOk (P : Program) (w : World) (K : PySem.W.Frag) (mg : Str → Option Value) (base : Heap) (k : Nat) (c m : Str) (F : Fn) : Prop where
  ex : ∃ C f fd ps, FnOk P w K mg base CX0 k f fd ps (spD mg F) ∧ mg c = some (.ref C) ∧ Cls K C ∧ Meth K C m f ∧ Binds K fd ps []
structure AtOk (K : PySem.W.Frag) (mg : Str → Option Value) (c f : Str) : Prop where
  ex : ∃ C, mg c = some (.ref C) ∧ Cls K C ∧ NoAttr K C f
end
section
variable {X : Cx} {τ : Bool}
theorem se_cal {k : Nat} {x : Str} {F : Fn} {e : Expr} {es : List Expr} {da : Ax} {p pos : Pos} (c : CallOk X.prog X.w X.K X.mg X.base k x F) (hr : Room k X.A) (ha : SA X τ (e :: es) da) (hg : Gl X x := by rfl)
    (hdb : (x == ("__debug__" : Str)) = false := by decide) (he : starEach (e :: es) X.env = (false, eval e X.env) :: starEach es X.env := by rfl) (hpl : (backTo pos (starEach es X.env)).any (·.1) = false := by rfl) :
    SE X τ (.Call (.Name x p) (e :: es) [] pos) (cal F da) := by
  obtain ⟨f, fd, ps, G, hm, hk, hb⟩ := c.ex
  refine (pe_call G hr hg hm hk hb .nil pass0 ha hdb he hpl).weak fun σ H Q ⟨B, O, env, d, rl, h1, q⟩ => ?_
  obtain ⟨ds, hd, h2⟩ := bnd h1
  refine ⟨B, O, env, ds, rl, hd, fun vs H1 s1 r1 => ?_⟩
  show rC X.mg F (vs ++ []) H1 Q
  rw [List.append_nil]
  exact ⟨_, ds, d, (rl.heap s1).fr, r1, h2, fun v H' s' rv => q v H' (s1.trans s') rv⟩
theorem se_fld {cs : List Str} {f : Str} {e : Expr} {de : Ex} {pos : Pos} (hc : ∀ c ∈ cs, AtOk X.K X.mg c f) (he : SE X τ e de) (hb : attributeBase e f X.env (eval e X.env) = eval e X.env := by rfl) : SE X τ (.Attribute e f pos) (fld cs f de) := (pe_fld he hb).weak fun σ H Q ⟨B, O, env, d, rl, h1, q⟩ => by
  obtain ⟨x, hx, h2⟩ := bnd h1
  refine ⟨B, O, env, x, rl, hx, fun v H1 s1 r1 => ?_⟩
  cases x <;> simp only [attr, reduceCtorEq] at h2
  rename_i c fs xs
  split at h2
  · rename_i hm
    cases r1
    rename_i a C dx fs' ha hH hmg rs
    obtain ⟨C', e1, e2, e3⟩ := (hc _ hm).ex
    rw [hmg] at e1; cases e1
    have key : ∀ (fs' : List (Str × V)) (xs : List D), Reps X.mg (Lv B O τ) H1 (fs'.map (·.2)) xs → ((fs'.map (·.1)).zip xs).lookup f = some d → ∃ v, fs'.lookup f = some v ∧ Rep X.mg (Lv B O τ) H1 v d := by
      intro fs'
      induction fs' with
      | nil => intro xs _ e; simp at e
      | cons p r ih =>
        intro xs rs e
        cases rs with
        | cons rv rt =>
          simp only [List.map_cons, List.zip_cons_cons, List.lookup] at e
          simp only [List.lookup]
          split at e
          · rename_i hb
            cases e
            (try rw [hb])
            exact ⟨_, rfl, rv⟩
          · rename_i hb
            (try rw [hb])
            exact ih _ rt e
    obtain ⟨v', h3, h4⟩ := key fs' xs rs h2
    exact ⟨a, C, dx, fs', v', rfl, hH, e2, e3, h3, q v' H1 s1 h4⟩
  · cases h2
theorem lookup_none {fs : List (Str × V)} {m : Str} (h : m ∉ fs.map (·.1)) : fs.lookup m = none := by
  induction fs with
  | nil => rfl
  | cons p r ih =>
    simp only [List.map_cons, List.mem_cons, not_or] at h
    simp only [List.lookup]
    have : (m == p.1) = false := beq_eq_false_iff_ne.mpr h.1
    rw [this]
    exact ih h.2
theorem se_met {k : Nat} {c m : Str} {F : Fn} {o e : Expr} {es : List Expr} {do_ : Ex} {da : Ax} {apos pos : Pos} {pl : Sem Bool} (g : MethOk X.prog X.w X.K X.mg X.base k c m F) (hr : Room k X.A) (ho : SE X τ o do_) (ha : SA X τ (e :: es) da)
    (hst : starEach (e :: es) X.env = (false, eval e X.env) :: starEach es X.env := by rfl) (hpl : (backTo pos (starEach es X.env)).any (·.1) = false := by rfl)
    (ht : eval (.Call (.Attribute o m apos) (e :: es) [] pos) X.env = (do
      let ov ← eval o X.env
      standAt apos.atName
      let (f, first) ← holding [ov] (getMethod ov m pl)
      callWith pos f first (backTo pos (starEach (e :: es) X.env)) (backToKw pos (keywordEach [] X.env))) := by rfl) :
    SE X τ (.Call (.Attribute o m apos) (e :: es) [] pos) (met [(c, F)] m do_ da) := by
  obtain ⟨C, f, fd, ps, G, hm, hc, hM, hb⟩ := g.ex
  refine (pe_meth ho hc hM G hr hb .nil pass0 ha hst hpl ht).weak fun σ H Q ⟨B, O, env, d, rl, h1, q⟩ => ?_
  obtain ⟨x, hx, h2⟩ := bnd h1
  obtain ⟨ds, hd, h3⟩ := bnd h2
  refine ⟨B, O, env, x, rl, hx, fun v H1 s1 r1 => ?_⟩
  cases x <;> simp only [metD, reduceCtorEq] at h3
  rename_i c' fs xs
  split at h3
  · cases h3
  · rename_i hmem
    obtain ⟨F', hF, h4⟩ := bnd h3
    simp only [List.lookup] at hF
    split at hF
    · rename_i hb'
      cases hF
      have ec : c' = c := by simpa using hb'
      subst ec
      have r1' := r1
      cases r1
      rename_i a C' dx fs' ha hH hmg rs
      rw [hm] at hmg; cases hmg
      refine ⟨a, dx, fs', rfl, hH, lookup_none hmem, B, O, env, ds, rl.heap s1, hd, fun vs H2 s2 r2 => ?_⟩
      show rC X.mg F (V.ref a :: (vs ++ [])) H2 Q
      rw [List.append_nil]
      exact ⟨_, _, d, ((rl.heap s1).heap s2).fr, .cons (r1'.same s2) r2, h4, fun v H' s' rv => q v H' ((s1.trans s2).trans s') rv⟩
    · cases hF
theorem se_met0 {k : Nat} {c m : Str} {F : Fn} {o : Expr} {do_ : Ex} {apos pos : Pos} {pl : Sem Bool} (g : MethOk X.prog X.w X.K X.mg X.base k c m F) (hr : Room k X.A) (ho : SE X τ o do_)
    (ht : eval (.Call (.Attribute o m apos) [] [] pos) X.env = (do
      let ov ← eval o X.env
      standAt apos.atName
      let (f, first) ← holding [ov] (getMethod ov m pl)
      callWith pos f first (backTo pos (starEach [] X.env)) (backToKw pos (keywordEach [] X.env))) := by rfl) :
    SE X τ (.Call (.Attribute o m apos) [] [] pos) (met [(c, F)] m do_ aN) := by
  obtain ⟨C, f, fd, ps, G, hm, hc, hM, hb⟩ := g.ex
  refine (pe_meth0 ho hc hM G hr hb .nil pass0 ht).weak fun σ H Q ⟨B, O, env, d, rl, h1, q⟩ => ?_
  obtain ⟨x, hx, h2⟩ := bnd h1
  obtain ⟨ds, hd, h3⟩ := bnd h2
  cases hd
  refine ⟨B, O, env, x, rl, hx, fun v H1 s1 r1 => ?_⟩
  cases x <;> simp only [metD, reduceCtorEq] at h3
  rename_i c' fs xs
  split at h3
  · cases h3
  · rename_i hmem
    obtain ⟨F', hF, h4⟩ := bnd h3
    simp only [List.lookup] at hF
    split at hF
    · rename_i hb'
      cases hF
      have ec : c' = c := by simpa using hb'
      subst ec
      have r1' := r1
      cases r1
      rename_i a C' dx fs' ha hH hmg rs
      rw [hm] at hmg; cases hmg
      refine ⟨a, dx, fs', rfl, hH, lookup_none hmem, ?_⟩
      exact ⟨_, _, d, (rl.heap s1).fr, .cons r1' .nil, h4, fun v H' s' rv => q v H' (s1.trans s') rv⟩
    · cases hF
end
end PV

namespace PV
variable [LT] [RT]
open PySem PySem.Spec PyProof.Rows L2
structure SameX (x : Addr) (H H' : Hp) : Prop where
  stay : ∀ (b : Addr) (o : HO), b ≠ x → H b = some o → [NT o] → H' b = some o
  tab : LamX.Tabs LT.T H → LamX.Tabs LT.T H'
  dom : ∀ b, H' b = none → H b = none
theorem SameX.after {x : Addr} {H H1 H' : Hp} (e : SameX x H1 H') (s : Same H H1) (hx : H x = Option.none) : Same H H' := ⟨fun b o z => e.stay b o (ne_of_none z hx) (s b o z), fun t => e.tab (s.tab t), fun b z => s.dom b (e.dom b z)⟩
def spI (mg : Str → Option Value) (c : Str) (F : Fn) : Sp := fun vs H Q _ => ∃ (x dx C : Addr) (us : List V) (A : Addr → Prop) (ds : List D) (fs : List Str) (xs : List D), vs = .ref x :: us ∧ H x = some (.ins C dx []) ∧ mg c = some (.ref C) ∧ Fr A H ∧
  Reps mg (fun a => A a ∧ a ≠ x) H us ds ∧ F ds = some (.ins c fs xs) ∧ ∀ H', SameX x H H' → Own mg (fun a => A a ∧ a ≠ x) H' x (.ins c fs xs) → Q .non H'
theorem ERel.writeS {K : PySem.W.Frag} {mg : Str → Option Value} {B : Bs} {H : Hp} {O : Nat → Option Addr} {σ : L2.St} {env : DEnv} {i : Nat} {o' : HO} {d' : D} (r : ERel K mg B O σ H env) (hO : O i = some B.sf) (hs : σ[i]? = some (some (.ref B.sf)))
    (ho : Own mg (Lv B O false) (upd H B.sf o') B.sf d') (hw : Wr o') :
    ERel K mg B O σ (upd H B.sf o') (env.set i (.slf d')) ∧ Fm O H O (upd H B.sf o') := by
  have k : Keep (Lv B O false) H (upd H B.sf o') := keep_write r hO
  have h0 := r.fr0 i B.sf hO
  obtain ⟨o0, hp0, w0⟩ := r.trk i B.sf hO
  refine ⟨⟨by simp [r.len], ⟨fun b o e _ => ?_, fun t p2 hp2 => tabS_upd hp0 w0 (r.same.tab t p2 hp2), fun b h => r.same.dom b (dom_upd h)⟩, fun j d2 e => ?_, fun j d2 e => ?_, fun j d2 e => ?_, r.inj, fun j q a => ?_, r.fr0, r.bd, fun j q a hj => by
    by_cases ej : j = i
    · subst ej
      exact ⟨d', .inr (List.getElem?_set_self (by simpa using hj))⟩
    · rw [List.getElem?_set_ne (Ne.symm ej)]
      exact r.nst j q a (by simpa using hj)⟩, ⟨fun b o hb e _ => by rw [upd_ne (fun z => hb i (by rw [z]; exact hO))]; exact e, fun t p2 hp2 => tabS_upd hp0 w0 (t p2 hp2), fun b h => dom_upd h, fun j b e => .inl ⟨j, e⟩⟩⟩
  · rw [upd_ne (ne_of_none e h0)]; exact r.same b o e
  · rcases get_set e with ⟨rfl, e2, hl⟩ | ⟨hj, e2⟩
    · cases e2
    · obtain ⟨w, h1, h2⟩ := r.vals j d2 e2
      exact ⟨w, h1, h2.mono (fun _ z => z) k⟩
  · rcases get_set e with ⟨rfl, e2, hl⟩ | ⟨hj, e2⟩
    · cases e2
    · obtain ⟨q, h1, h2, h3, h4⟩ := r.owns j d2 e2
      have nq : q ≠ B.sf := fun z => hj (r.inj j i B.sf (z ▸ h1) hO)
      exact ⟨q, h1, h2, h3, h4.mono (fun _ z => z) k fun o z _ => by rw [upd_ne nq]; exact z⟩
  · rcases get_set e with ⟨rfl, e2, hl⟩ | ⟨hj, e2⟩
    · cases e2
      exact ⟨hO, hs, ho⟩
    · obtain ⟨h1, h2, h4⟩ := r.slfs j d2 e2
      exact absurd (r.inj j i B.sf h1 hO) hj
  · by_cases e : q = B.sf
    · subst e; exact ⟨o', upd_same, hw⟩
    · obtain ⟨o, z, w⟩ := r.trk j q a
      exact ⟨o, by rw [upd_ne e]; exact z, w⟩
theorem putF_map {mg : Str → Option Value} {A : Addr → Prop} {H : Hp} {f : Str} {v : V} {d : D} (hv : Rep mg A H v d) : ∀ (fs : List (Str × V)) (xs : List D), Reps mg A H (fs.map (·.2)) xs →
    (L2.putF f v fs).map (·.1) = (putFD f d (fs.map (·.1)) xs).1 ∧ Reps mg A H ((L2.putF f v fs).map (·.2)) (putFD f d (fs.map (·.1)) xs).2
  | [], xs, r => by
    cases r
    exact ⟨rfl, .cons hv .nil⟩
  | (g, x) :: fs, xs, r => by
    cases r with
    | cons h t =>
      obtain ⟨i1, i2⟩ := putF_map hv fs _ t
      unfold L2.putF
      simp only [List.map_cons, putFD]
      by_cases e : g = f
      · rw [if_pos e, if_pos e]
        exact ⟨rfl, .cons hv t⟩
      · rw [if_neg e, if_neg e]
        exact ⟨congrArg (List.cons g) i1, .cons h i2⟩
section
variable {X : Cx} {τ : Bool}
theorem s_setF {i : Nat} {c f y : Str} {e : Expr} {de : Ex} {pos pos' py : Pos} (hc : AtOk X.K X.mg c f) (he : SE X false e de) (hN : X.N[i]? = some y := by rfl) (hv : Vis X.env.scope y := by first | exact Or.inl rfl | exact Or.inr (Or.inl rfl) | exact Or.inr (Or.inr rfl)) (hd : (y == ("__debug__" : Str)) = false := by decide)
    (hcd : (y == ("__classdict__" : Str)) = false := by decide) (hs : swapsWith e (some (.Attribute (.Name y py) f pos')) pos.line X.env = pure false := by rfl) : SS X (.Assign [.Attribute (.Name y py) f pos'] e pos) (setF i c f de) := (ps_fld (pe_var hN hv hd hcd) he hs).weak fun D σ H ⟨B, O, env, r, rl, h1, q⟩ => by
  obtain ⟨d, hd, h2⟩ := bnd h1
  refine ⟨B, O, env, d, rl, hd, fun v H1 s1 r1 => ?_⟩
  split at h2
  · rename_i c' fs xs hi
    split at h2
    · rename_i hcc
      obtain ⟨rfl, hl1, hl2⟩ := hcc
      cases h2
      obtain ⟨g1, g2, g3⟩ := (rl.heap s1).slfs i _ hi
      obtain ⟨C', e1, e2, e3⟩ := hc.ex
      cases g3
      rename_i C dx fs' hH hmg rs
      rw [hmg] at e1
      obtain rfl : C = C' := by injection e1 with e1; injection e1
      refine ⟨_, g2, B.sf, C, dx, fs', rfl, hH, e2, e3, by simpa using hl1, ?_⟩
      obtain ⟨p1, p2⟩ := putF_map (f := f) r1 fs' xs rs
      have z := ERel.writeS (o' := .ins C dx (L2.putF f v fs')) (d' := .ins c' (putFD f d (fs'.map (·.1)) xs).1 (putFD f d (fs'.map (·.1)) xs).2) (rl.heap s1) g1 g2 (by
        rw [← p1]
        exact .ins upd_same hmg (p2.mono (fun _ z => z) (keep_write (rl.heap s1) g1))) trivial
      exact q σ _ O z.1 ((Fm.of_same s1).trans z.2)
    · cases h2
  · cases h2
end
section
variable {P : Program} {w : World} {K : PySem.W.Frag} {mg : Str → Option Value} {base : Heap}
theorem ini_sound {x qual c : Str} {args : Arguments} {body : List Stmt} {sc : Scope} {f : Addr} {fd : FuncData} {N ps : List Str} {k : Nat} {db : Sx} (F : FunD K x qual args body sc [] [] f fd) (S : FnScope N ps sc)
    (hb : ∀ (cdv : Value) (A : Around) (outer : List Env) (s : Shared) (H : Hp), Room k (A.deeper (envOfC qual sc s.heap.objs.size f cdv)) → SSs (cxOf CX0 P w K mg base N qual sc f cdv A outer s H E0).nox body db) :
    FnOk P w K mg base CX0 (k + 1) f fd ps (spI mg c (ini c ps.length N.length db)) := by
  have hpl : ps.length ≤ N.length := by have := congrArg List.length S.pre; rw [List.length_take] at this; omega
  refine F.ok S (fun vs H Q E h => ?_) fun cdv A outer s H vs Q E hr h => ?_
  · obtain ⟨a, dx, C, us, A, ds, fs, xs, rfl, _, _, _, r, e, _⟩ := h
    unfold ini at e
    split at e
    · rename_i hl; rw [List.length_cons, r.len, hl]
    · cases e
  · refine ⟨tS K mg db, PSs.nox (hb cdv A outer s H hr), ?_⟩
    obtain ⟨a, dx, C, us, A1, ds, fs, xs, rfl, hx, hC, fr, r, e, q⟩ := h
    unfold ini at e
    split at e
    · rename_i hl
      obtain ⟨rs, h1, h2⟩ := bnd e
      have own : ∀ (i : Nat) (x : DSlot), (ds.map DSlot.val ++ List.replicate (N.length - ps.length) DSlot.no)[i]? = some x → (∃ d, x = .val d ∧ ds[i]? = some d ∧ i < ds.length) ∨ x = .no := fun i x e => by
        by_cases hi : i < ds.length
        · rw [List.getElem?_append_left (by simpa using hi), List.getElem?_map, List.getElem?_eq_getElem hi] at e
          exact .inl ⟨ds[i], (Option.some.inj e).symm, List.getElem?_eq_getElem hi, hi⟩
        · rw [List.getElem?_append_right (by simpa using hi), List.getElem?_replicate] at e
          split at e
          · exact .inr (Option.some.inj e).symm
          · cases e
      have tb0 : LamX.Tabs LT.T (fun b => if b = a then none else H b) := fun p hp => by
        obtain ⟨ps, h1, h2, h3⟩ := fr.tb p hp
        have ne : p.1 ≠ a := fun e => by rw [e, hx] at h1; cases h1
        refine ⟨ps, by show (if p.1 = a then none else H p.1) = _; rw [if_neg ne]; exact h1, h2, fun pos cv hc => ?_⟩
        obtain ⟨c, e1, e2⟩ := h3 pos cv hc
        have nc : c ≠ a := fun e => by rw [e, hx] at e2; cases e2
        exact ⟨c, e1, by show (if c = a then none else H c) = _; rw [if_neg nc]; exact e2⟩
      have rl : ERel K mg ⟨fun b => if b = a then none else H b, fun b => A1 b ∧ b ≠ a, a, tb0⟩ (fun j => if j = 0 then some a else none) (L2.start N (.ref a :: us)) H (DSlot.slf (.ins c [] []) :: (ds.map DSlot.val ++ List.replicate (N.length - ps.length) DSlot.no)) := by
        refine ⟨?_, Same.of fun b o e => ?_, fun i d e => ?_, fun i d e => ?_, fun i d e => ?_, fun i j p ha hb => ?_, fun i p ha => ?_, fun i p ha => ?_, ⟨1, fun i hi => if_neg (by omega)⟩, fun i p ha hi => ?_⟩
        · unfold L2.start
          have hul : us.length = ds.length := r.len
          simp [hul]
          omega
        · dsimp only at e
          split at e
          · cases e
          · exact e
        · cases i with
          | zero => cases e
          | succ i =>
            rcases own i _ (by simpa using e) with ⟨d', e2, e3, hi⟩ | e2
            · cases e2
              obtain ⟨v, g1, g2⟩ := r.get e3
              refine ⟨v, ?_, g2.mono (fun b hb => ⟨.inl hb, .inr fun j z => ?_⟩) keepRefl⟩
              · unfold L2.start
                rw [List.getElem?_append_left (by simp [r.len]; omega), List.getElem?_map]
                simp [g1]
              · dsimp only at z
                split at z
                · cases z; exact hb.2 rfl
                · cases z
            · cases e2
        · cases i with
          | zero => cases e
          | succ i => rcases own i _ (by simpa using e) with ⟨d', e2, _⟩ | e2 <;> cases e2
        · cases i with
          | zero =>
            cases e
            refine ⟨rfl, rfl, ?_⟩
            have : Own mg (Lv ⟨fun b => if b = a then none else H b, fun b => A1 b ∧ b ≠ a, a, tb0⟩ (fun j => if j = 0 then some a else none) false) H a (.ins c (([] : List (Str × V)).map (·.1)) []) := .ins hx hC .nil
            exact this
          | succ i => rcases own i _ (by simpa using e) with ⟨d', e2, _⟩ | e2 <;> cases e2
        · (try dsimp only at ha hb)
          split at ha <;> split at hb <;> first | omega | (cases ha; done) | (cases hb; done)
        · (try dsimp only at ha)
          split at ha
          · cases ha; exact ⟨_, hx, trivial⟩
          · cases ha
        · (try dsimp only at ha)
          split at ha
          · cases ha; simp
          · cases ha
        · (try dsimp only at ha)
          split at ha
          · rename_i hi0
            subst hi0
            exact ⟨_, .inr rfl⟩
          · cases ha
      refine ⟨_, _, _, rs, rl, h1, ?_⟩
      cases rs with
      | nx e' =>
        (try dsimp only at h2)
        split at h2
        · rename_i c' fs' xs' he
          split at h2
          · rename_i hcc
            subst hcc
            cases h2
            refine fun σ' H' O' rl' f' => q H' ⟨fun b o hb e _ => rl'.same b o (by dsimp only; rw [if_neg hb]; exact e), f'.tab, f'.dom⟩ ?_
            obtain ⟨g1, g2, g3⟩ := rl'.slfs 0 _ he
            refine g3.mono (fun b hb => ?_) keepRefl fun _ z => z
            have nb : b ≠ a := fun z => hb.2.elim (fun z => Bool.noConfusion z) fun w => w 0 (by rw [z]; exact g1)
            refine ⟨?_, nb⟩
            rcases hb.1 with z | z
            · exact z.1
            · dsimp only at z
              rw [if_neg nb] at z
              exact fr b z
          · cases h2
        · cases h2
      | ret d' => cases h2
      | bk e' => cases h2
      | ct e' => cases h2
    · cases e
structure MakeOk (P : Program) (w : World) (K : PySem.W.Frag) (mg : Str → Option Value) (base : Heap) (k : Nat) (c : Str) (F : Fn) : Prop where
  ex : ∃ C f fd ps, FnOk P w K mg base CX0 k f fd ps (spI mg c F) ∧ mg c = some (.ref C) ∧ Mk K C f ∧ Binds K fd ps []
end
def isIns (c : Str) (F : Fn) : Fn := fun ds => (F ds).bind fun d => match d with
  | .ins c' fs xs => if c' = c then some (.ins c' fs xs) else none
  | _ => none
section
variable {X : Cx} {τ : Bool}
theorem mak_core {mg : Str → Option Value} {B : Bs} {O : Nat → Option Addr} {σ : L2.St} {H1 : Hp} {env : DEnv} {c : Str} {C : Addr} {F : Fn} {vs : List V} {ds : List D} {fs : List Str} {xs : List D} {Q : VK} {A : Addr → Prop}
    (hm : mg c = some (.ref C)) (fr : Fr A H1) (r1 : Reps mg A H1 vs ds) (e : F ds = some (.ins c fs xs)) (q : ∀ p H', Same H1 H' → H1 p = none → Own mg (fun a => A a ∧ a ≠ p) H' p (.ins c fs xs) → Q (.ref p) H') (E : XK) :
    ∀ x dx, H1 x = none → H1 dx = none → dx ≠ x → spI mg c F (.ref x :: (vs ++ [])) (upd (upd H1 dx (.own x)) x (.ins C dx [])) (fun v H2 => v = .non ∧ Q (.ref x) H2) E := by
  intro x dx hx hdx hne
  have s0 : Same H1 (upd (upd H1 dx (.own x)) x (.ins C dx [])) := Same.of fun b o z => by
    rw [upd_ne (ne_of_none z hx), upd_ne (ne_of_none z hdx)]; exact z
  refine ⟨x, dx, C, vs, A, ds, fs, xs, by rw [List.append_nil], upd_same, hm, ⟨fun a ha => fr a (Same.free s0 ha), s0.tabs fr.tb⟩, (Reps.ne hx r1).same s0, e, fun H' keep o => ⟨rfl, q x H' (keep.after s0 hx) hx o⟩⟩
theorem se_mak {k : Nat} {c : Str} {F : Fn} {e : Expr} {es : List Expr} {da : Ax} {p pos : Pos} (g : MakeOk X.prog X.w X.K X.mg X.base k c F) (hr : Room (k + 1) X.A) (ha : SA X τ (e :: es) da) (hg : Gl X c := by rfl)
    (hdb : (c == ("__debug__" : Str)) = false := by decide) (he : starEach (e :: es) X.env = (false, eval e X.env) :: starEach es X.env := by rfl) (hpl : (backTo pos (starEach es X.env)).any (·.1) = false := by rfl) :
    SE X τ (.Call (.Name c p) (e :: es) [] pos) (cal (isIns c F) da) := by
  obtain ⟨C, f, fd, ps, G, hm, M, hb⟩ := g.ex
  refine (pe_make M G hr hg hm hb .nil pass0 ha hdb he hpl).weak fun σ H Q ⟨B, O, env, d, rl, h1, q⟩ => ?_
  obtain ⟨ds, hd, h2⟩ := bnd h1
  obtain ⟨d', hF, h3⟩ := bnd h2
  refine ⟨B, O, env, ds, rl, hd, fun vs H1 s1 r1 => ?_⟩
  split at h3
  · split at h3
    · rename_i hcc
      subst hcc
      cases h3
      exact mak_core (B := B) (O := O) (σ := σ) (env := env) hm (rl.heap s1).fr r1 hF (fun p H' s hp o => q _ H' (s1.trans s) (o.rep (fun _ z => z.1) ((rl.heap s1).fr p hp))) _
    · cases h3
  · cases h3
theorem sn_mak {k : Nat} {c : Str} {F : Fn} {e : Expr} {es : List Expr} {da : Ax} {p pos : Pos} (g : MakeOk X.prog X.w X.K X.mg X.base k c F) (hr : Room (k + 1) X.A) (ha : SA X false (e :: es) da) (hg : Gl X c := by rfl)
    (hdb : (c == ("__debug__" : Str)) = false := by decide) (he : starEach (e :: es) X.env = (false, eval e X.env) :: starEach es X.env := by rfl) (hpl : (backTo pos (starEach es X.env)).any (·.1) = false := by rfl) :
    SN X (.Call (.Name c p) (e :: es) [] pos) (cal (isIns c F) da) := by
  obtain ⟨C, f, fd, ps, G, hm, M, hb⟩ := g.ex
  refine (pe_make M G hr hg hm hb .nil pass0 ha hdb he hpl).weak fun σ H Q ⟨B, O, env, d, rl, h1, q⟩ => ?_
  obtain ⟨ds, hd, h2⟩ := bnd h1
  obtain ⟨d', hF, h3⟩ := bnd h2
  refine ⟨B, O, env, ds, rl, hd, fun vs H1 s1 r1 => ?_⟩
  split at h3
  · split at h3
    · rename_i hcc
      subst hcc
      cases h3
      exact mak_core (B := B) (O := O) (σ := σ) (env := env) hm (rl.heap s1).fr r1 hF (fun p H' s hp o => q p H' (s1.trans s) (Same.free s1 hp) o) _
    · cases h3
  · cases h3
end
end PV

namespace PV
variable [LT] [RT]
open PySem PySem.Spec PyProof.Rows L2
mutual
def toP : D → PyData
  | .non => .none
  | .bl b => .bool b
  | .int i => .int i
  | .str x => .str x
  | .tup xs => .tuple (toPs xs)
  | .ftup xs => .tuple (toPs xs)
  | .lst xs => .list (toPs xs)
  | _ => .none
def toPs : List D → List PyData
  | [] => []
  | x :: xs => toP x :: toPs xs
end
mutual
theorem plain_dp {K : PySem.W.Frag} {mg : Str → Option Value} {A : Addr → Prop} {H : Hp} : ∀ {n : Nat} {v : V} {d : D}, D.plain n d = true → Rep mg A H v d → Dp K H v (toP d)
  | _, _, _, _, .non => .non
  | _, _, _, _, .bl b => .bl b
  | _, _, _, _, .int i => .int i
  | _, _, _, _, .str x => .str x
  | 0, _, _, e, .tup h r => by simp [D.plain] at e
  | n + 1, _, _, e, .tup h r => .tup (.inl (.inl h)) (plains_dp (n := n) (by simpa [D.plain] using e) r)
  | 0, _, _, e, .ftup h d r => by simp [D.plain] at e
  | n + 1, _, _, e, .ftup h d r => .tup (.inl (.inr ⟨_, h⟩)) (plains_dp (n := n) (by simpa [D.plain] using e) r)
  | 0, _, _, e, .lst a h r => by simp [D.plain] at e
  | n + 1, _, _, e, .lst a h r => .lst (.inl (.inl h)) (plains_dp (n := n) (by simpa [D.plain] using e) r)
  | _, _, _, e, .scr .. => by simp [D.plain] at e
  | _, _, _, e, .dicK .. => by simp [D.plain] at e
  | _, _, _, e, .dicT .. => by simp [D.plain] at e
  | _, _, _, e, .ins .. => by simp [D.plain] at e
theorem plains_dp {K : PySem.W.Frag} {mg : Str → Option Value} {A : Addr → Prop} {H : Hp} : ∀ {n : Nat} {v : List V} {d : List D}, D.plains n d = true → Reps mg A H v d → DpAll K H v (toPs d)
  | _, _, _, _, .nil => .nil
  | n, _, _, e, .cons h t => by
    simp only [D.plains, Bool.and_eq_true] at e
    exact .cons (plain_dp e.1 h) (plains_dp e.2 t)
end
mutual
theorem plain_lay : ∀ {n : Nat} {d : D}, D.plain n d = true → PyData.canLay0 (toP d) = true ∧ PyData.depth (toP d) ≤ n
  | n, .non, _ => by simp [toP, PyData.canLay0, PyData.depth]
  | n, .bl _, _ => by simp [toP, PyData.canLay0, PyData.depth]
  | n, .int _, _ => by simp [toP, PyData.canLay0, PyData.depth]
  | n, .str x, e => by
    simp only [D.plain] at e
    simp only [toP, PyData.canLay0, PyData.depth]
    exact ⟨e, Nat.zero_le _⟩
  | 0, .tup xs, e => by simp [D.plain] at e
  | n + 1, .tup xs, e => by
    have z := plains_lay (n := n) (d := xs) (by simpa [D.plain] using e)
    simp only [toP, PyData.canLay0, PyData.depth]
    exact ⟨z.1, Nat.succ_le_succ z.2⟩
  | 0, .ftup xs, e => by simp [D.plain] at e
  | n + 1, .ftup xs, e => by
    have z := plains_lay (n := n) (d := xs) (by simpa [D.plain] using e)
    simp only [toP, PyData.canLay0, PyData.depth]
    exact ⟨z.1, Nat.succ_le_succ z.2⟩
  | 0, .lst xs, e => by simp [D.plain] at e
  | n + 1, .lst xs, e => by
    have z := plains_lay (n := n) (d := xs) (by simpa [D.plain] using e)
    simp only [toP, PyData.canLay0, PyData.depth]
    exact ⟨z.1, Nat.succ_le_succ z.2⟩
  | _, .scr _, e => by simp [D.plain] at e
  | _, .dic _ _ _, e => by simp [D.plain] at e
  | _, .ins _ _ _, e => by simp [D.plain] at e
theorem plains_lay : ∀ {n : Nat} {d : List D}, D.plains n d = true → PyData.canLayAll0 (toPs d) = true ∧ PyData.depthAll (toPs d) ≤ n
  | n, [], _ => by simp [toPs, PyData.canLayAll0, PyData.depthAll]
  | n, x :: xs, e => by
    simp only [D.plains, Bool.and_eq_true] at e
    have h1 := plain_lay e.1
    have h2 := plains_lay e.2
    simp only [toPs, PyData.canLayAll0, PyData.depthAll, Bool.and_eq_true]
    exact ⟨⟨h1.1, h2.1⟩, Nat.max_le.mpr ⟨h1.2, h2.2⟩⟩
end
theorem plain_shaped {n : Nat} {d : D} (h : D.plain n d = true) (hn : n ≤ 64) : SeqAt.shaped (toP d) = true := by
  have z := plain_lay h
  unfold SeqAt.shaped
  rw [z.1, decide_eq_true (Nat.le_trans z.2 hn)]
  rfl
mutual
theorem eqv_toP : ∀ {n m : Nat} {a b : D}, D.plain n a = true → D.plain m b = true → PyData.eqv (toP a) (toP b) = D.eqv a b
  | n, m, a, b, ha, hb => by
    cases a <;> cases b <;> first
      | rfl
      | (simp [D.plain] at ha; done)
      | (simp [D.plain] at hb; done)
      | skip
    all_goals
      cases n <;> cases m <;> first
        | (simp [D.plain] at ha; done)
        | (simp [D.plain] at hb; done)
        | (simp only [D.plain] at ha hb
           simp only [toP, PyData.eqv, D.eqv]
           exact eqvs_toP ha hb)
theorem eqvs_toP : ∀ {n m : Nat} {a b : List D}, D.plains n a = true → D.plains m b = true → PyData.eqvAll (toPs a) (toPs b) = D.eqvs a b
  | n, m, [], [], _, _ => rfl
  | n, m, [], _ :: _, _, _ => rfl
  | n, m, _ :: _, [], _, _ => rfl
  | n, m, x :: xs, y :: ys, ha, hb => by
    simp only [D.plains, Bool.and_eq_true] at ha hb
    simp only [toPs, PyData.eqvAll, D.eqvs]
    rw [eqv_toP ha.1 hb.1, eqvs_toP ha.2 hb.2]
end
def rB (mg : Str → Option Value) (f : D → D → Option Bool) : R2 := fun x y H Q => ∃ A dx dy b, Rep mg A H x dx ∧ Rep mg A H y dy ∧ f dx dy = some b ∧ Q (.bl b) H
section
variable {X : Cx} {τ : Bool}
theorem nil_empty {mg : Str → Option Value} {A : Addr → Prop} {H : Hp} {xs : List V} {ds : List D} (t : Reps mg A H xs ds) (n : xs ≠ []) : ds.isEmpty = false := by
  cases ds
  · cases t; exact absurd rfl n
  · rfl
theorem op_addD : OpR X (binaryOp .Add) (rD X.mg addD) := by
  intro pins s σ H x y v u Q I rx ry ⟨A, dx, dy, d, fr, r1, r2, e, q⟩
  cases r1 <;> cases r2 <;> simp only [addD, reduceCtorEq] at e
  · cases e
    exact op_add pins s σ H _ _ v u Q I rx ry ⟨_, _, rfl, rfl, q _ H (Same.refl H) (.int _)⟩
  · split at e
    · rename_i hz
      cases e
      exact op_add_str pins s σ H _ _ v u Q I rx ry ⟨_, _, rfl, rfl, szL_ok hz, q _ H (Same.refl H) (.str _)⟩
    · cases e
  · split at e
    · rename_i a xs ds h1 t1 b ys es h2 t2 hz
      cases e
      refine op_catA pins s σ H _ _ v u Q I rx ry ⟨a, b, xs, ys, rfl, rfl, .inl (.inl h1), .inl (.inl h2), by rw [t1.len, t2.len]; exact szL_ok hz, fun e => ?_, fun _ e => ?_, fun _ _ p hp => ?_⟩
      · subst e
        cases t1
        exact q _ H (Same.refl H) (.tup h2 (by simpa using t2))
      · subst e
        cases t2
        exact q _ H (Same.refl H) (.tup h1 (by simpa using t1))
      · exact q _ _ (same_upd hp) (.tup upd_same ((t1.append t2).same (same_upd hp)))
    · cases e
  · split at e
    · rename_i a xs ds h1 t1 b ob ys es h2 f2 t2 hz
      cases e
      refine op_catA pins s σ H _ _ v u Q I rx ry ⟨a, b, xs, ys, rfl, rfl, .inl (.inl h1), .inl (.inr ⟨_, h2⟩), by rw [t1.len, t2.len]; exact szL_ok hz, fun e => ?_, fun n e => ?_, fun n _ p hp => ?_⟩
      · subst e
        cases t1
        exact q _ H (Same.refl H) (.ftup h2 f2 t2)
      · subst e
        cases t2
        simp only [nil_empty t1 n, Bool.false_eq_true, if_false] at q
        exact q _ H (Same.refl H) (.tup h1 (by simpa using t1))
      · simp only [nil_empty t1 n, Bool.false_eq_true, if_false] at q
        exact q _ _ (same_upd hp) (.tup upd_same ((t1.append t2).same (same_upd hp)))
    · cases e
  · split at e
    · rename_i a xs ds a1 h1 t1 b ys es a2 h2 t2 hz
      cases e
      exact op_cat pins s σ H _ _ v u Q I rx ry ⟨a, b, xs, ys, rfl, rfl, h1, h2, by rw [t1.len, t2.len]; exact szL_ok hz, fun p hp => q _ _ (same_upd hp) (.lst (fr p hp) upd_same ((t1.append t2).same (same_upd hp)))⟩
    · cases e
  · split at e
    · rename_i a ob xs ds h1 f1 t1 b ys es h2 t2 hz
      cases e
      refine op_catA pins s σ H _ _ v u Q I rx ry ⟨a, b, xs, ys, rfl, rfl, .inl (.inr ⟨_, h1⟩), .inl (.inl h2), by rw [t1.len, t2.len]; exact szL_ok hz, fun e => ?_, fun n e => ?_, fun n m p hp => ?_⟩
      · subst e
        cases t1
        exact q _ H (Same.refl H) (.tup h2 (by simpa using t2))
      · subst e
        cases t2
        simp only [nil_empty t1 n, Bool.not_false, List.isEmpty_nil, Bool.and_self, if_true] at q
        exact q _ H (Same.refl H) (.ftup h1 f1 t1)
      · simp only [nil_empty t2 m, Bool.and_false, Bool.false_eq_true, if_false] at q
        exact q _ _ (same_upd hp) (.tup upd_same ((t1.append t2).same (same_upd hp)))
    · cases e
  · split at e
    · rename_i a ob xs ds h1 f1 t1 b ob2 ys es h2 f2 t2 hz
      cases e
      refine op_catA pins s σ H _ _ v u Q I rx ry ⟨a, b, xs, ys, rfl, rfl, .inl (.inr ⟨_, h1⟩), .inl (.inr ⟨_, h2⟩), by rw [t1.len, t2.len]; exact szL_ok hz, fun e => ?_, fun n e => ?_, fun n m p hp => ?_⟩
      · subst e
        cases t1
        exact q _ H (Same.refl H) (.ftup h2 f2 t2)
      · subst e
        cases t2
        simp only [nil_empty t1 n, List.isEmpty_nil, Bool.false_eq_true, if_false, if_true] at q
        exact q _ H (Same.refl H) (.ftup h1 f1 t1)
      · simp only [nil_empty t1 n, nil_empty t2 m, Bool.false_eq_true, if_false] at q
        exact q _ _ (same_upd hp) (.tup upd_same ((t1.append t2).same (same_upd hp)))
    · cases e
theorem op_subD : OpR X (binaryOp .Sub) (rD X.mg subD) := by
  intro pins s σ H x y v u Q I rx ry ⟨A, dx, dy, d, fr, r1, r2, e, q⟩
  cases r1 <;> cases r2 <;> simp only [subD, reduceCtorEq] at e
  cases e
  exact op_sub pins s σ H _ _ v u Q I rx ry ⟨_, _, rfl, rfl, q _ H (Same.refl H) (.int _)⟩
theorem b64_ok {a : Int} (h : b64 a = true) : -(2 ^ 64) < a ∧ a < 2 ^ 64 := by
  unfold b64 at h
  have h := of_decide_eq_true h
  by_cases z : a.natAbs = 0
  · omega
  · have := (Nat.log2_lt z).mp h
    omega
theorem b64_of {a : Int} (h : -(2 ^ 64) < a ∧ a < 2 ^ 64) : b64 a = true := by
  unfold b64
  refine decide_eq_true ?_
  by_cases z : a.natAbs = 0
  · rw [z]; decide
  · exact (Nat.log2_lt z).mpr (by omega)
theorem op_modD : OpR X (binaryOp .Mod) (rD X.mg modD) := by
  intro pins s σ H x y v u Q I rx ry ⟨A, dx, dy, d, fr, r1, r2, e, q⟩
  cases r1 <;> cases r2 <;> simp only [modD, reduceCtorEq] at e
  split at e
  · rename_i h
    cases e
    exact op_mod pins s σ H _ _ v u Q I rx ry ⟨_, _, rfl, rfl, h, q _ H (Same.refl H) (.int _)⟩
  · cases e
theorem op_divD : OpR X (binaryOp .FloorDiv) (rD X.mg divD) := by
  intro pins s σ H x y v u Q I rx ry ⟨A, dx, dy, d, fr, r1, r2, e, q⟩
  cases r1 <;> cases r2 <;> simp only [divD, reduceCtorEq] at e
  split at e
  · rename_i h
    simp only [Bool.and_eq_true, decide_eq_true_eq] at h
    cases e
    exact op_fdiv pins s σ H _ _ v u Q I rx ry ⟨_, _, rfl, rfl, h, q _ H (Same.refl H) (.int _)⟩
  · cases e
theorem op_powD : OpR X (binaryOp .Pow) (rD X.mg powD) := by
  intro pins s σ H x y v u Q I rx ry ⟨A, dx, dy, d, fr, r1, r2, e, q⟩
  cases r1 <;> cases r2 <;> simp only [powD, reduceCtorEq] at e
  split at e
  · rename_i h
    simp only [Bool.and_eq_true, decide_eq_true_eq] at h
    cases e
    exact op_pow pins s σ H _ _ v u Q I rx ry ⟨_, _, rfl, rfl, ⟨h.1.1, h.1.2, h.2⟩, q _ H (Same.refl H) (.int _)⟩
  · cases e
theorem op_eqDD (hu : X.A.units + 64 < cLine) : OpR X (compareOp .Eq) (rB X.mg eqD) := by
  intro pins s σ H x y v u Q I rx ry ⟨A, dx, dy, b, r1, r2, e, q⟩
  unfold eqD at e
  split at e
  · rename_i h
    simp only [Bool.and_eq_true] at h
    cases e
    exact op_eqD hu pins s σ H x y v u Q I rx ry ⟨_, _, plain_dp h.1 r1, plain_dp h.2 r2, plain_shaped h.1 (by decide), plain_shaped h.2 (by decide), by rw [eqv_toP h.1 h.2]; exact q⟩
  · cases e
theorem op_neDD (hu : X.A.units + 64 < cLine) : OpR X (compareOp .NotEq) (rB X.mg (neg eqD)) := by
  intro pins s σ H x y v u Q I rx ry ⟨A, dx, dy, b, r1, r2, e, q⟩
  unfold neg eqD at e
  split at e
  · rename_i h
    simp only [Bool.and_eq_true] at h
    cases e
    exact op_neD hu pins s σ H x y v u Q I rx ry ⟨_, _, plain_dp h.1 r1, plain_dp h.2 r2, plain_shaped h.1 (by decide), plain_shaped h.2 (by decide), by rw [eqv_toP h.1 h.2]; exact q⟩
  · cases e
theorem op_ltD : OpR X (compareOp .Lt) (rB X.mg ltD) := by
  intro pins s σ H x y v u Q I rx ry ⟨A, dx, dy, b, r1, r2, e, q⟩
  cases r1 <;> cases r2 <;> simp only [ltD, reduceCtorEq] at e
  cases e
  exact op_lt pins s σ H _ _ v u Q I rx ry ⟨_, _, rfl, rfl, q⟩
theorem op_leD : OpR X (compareOp .LtE) (rB X.mg leD) := by
  intro pins s σ H x y v u Q I rx ry ⟨A, dx, dy, b, r1, r2, e, q⟩
  cases r1 <;> cases r2 <;> simp only [leD, reduceCtorEq] at e
  cases e
  exact op_le pins s σ H _ _ v u Q I rx ry ⟨_, _, rfl, rfl, q⟩
theorem op_gtD : OpR X (compareOp .Gt) (rB X.mg (flip ltD)) := by
  intro pins s σ H x y v u Q I rx ry ⟨A, dx, dy, b, r1, r2, e, q⟩
  cases r1 <;> cases r2 <;> simp only [flip, ltD, reduceCtorEq] at e
  cases e
  exact op_gt pins s σ H _ _ v u Q I rx ry ⟨_, _, rfl, rfl, q⟩
theorem op_geD : OpR X (compareOp .GtE) (rB X.mg (flip leD)) := by
  intro pins s σ H x y v u Q I rx ry ⟨A, dx, dy, b, r1, r2, e, q⟩
  cases r1 <;> cases r2 <;> simp only [flip, leD, reduceCtorEq] at e
  cases e
  exact op_ge pins s σ H _ _ v u Q I rx ry ⟨_, _, rfl, rfl, q⟩
theorem anyP : ∀ {n m : Nat} {ys : List D} {x : D}, D.plain n x = true → D.plains m ys = true → ((toPs ys).any fun z => PyData.eqv z (toP x)) = ys.any fun z => D.eqv z x
  | n, m, [], x, _, _ => rfl
  | n, m, y :: ys, x, h, h2 => by
    simp only [D.plains, Bool.and_eq_true] at h2
    simp only [toPs, List.any_cons]
    rw [eqv_toP h2.1 h, anyP h h2.2]
theorem op_inLD (hu : X.A.units + 65 < cLine) : OpR X (compareOp .In) (rB X.mg inL) := by
  intro pins s σ H x y v u Q I rx ry ⟨A, dx, dy, b, r1, r2, e, q⟩
  cases r2 <;> simp only [inL, reduceCtorEq] at e
  rename_i a xs ds ha h t
  split at e
  · rename_i hp
    simp only [Bool.and_eq_true] at hp
    cases e
    have pl : D.plain 60 (.lst ds) = true := by simp only [D.plain]; exact hp.2
    refine op_inD hu pins s σ H x _ v u Q I rx ry ⟨_, _, plain_dp hp.1 r1, plain_dp pl (.lst ha h t), plain_shaped hp.1 (by decide), plain_shaped pl (by decide), ?_⟩
    rw [anyP hp.1 hp.2]
    exact q
  · cases e
theorem op_ninLD (hu : X.A.units + 65 < cLine) : OpR X (compareOp .NotIn) (rB X.mg (neg inL)) := by
  intro pins s σ H x y v u Q I rx ry ⟨A, dx, dy, b, r1, r2, e, q⟩
  unfold neg at e
  cases r2 <;> simp only [inL, reduceCtorEq, Option.map_none] at e
  rename_i a xs ds ha h t
  split at e
  · rename_i hp
    simp only [Bool.and_eq_true] at hp
    cases e
    have pl : D.plain 60 (.lst ds) = true := by simp only [D.plain]; exact hp.2
    refine op_notInD hu pins s σ H x _ v u Q I rx ry ⟨_, _, plain_dp hp.1 r1, plain_dp pl (.lst ha h t), plain_shaped hp.1 (by decide), plain_shaped pl (by decide), ?_⟩
    rw [anyP hp.1 hp.2]
    exact q
  · cases e
theorem str_one {x : Str} {c : Nat} (h : x.cps.toList = [c]) : x = ⟨#[c]⟩ := by
  cases x with
  | mk cps =>
    have : cps = #[c] := by
      apply Array.ext'
      exact h
    rw [this]
theorem op_inSD : OpR X (compareOp .In) (rB X.mg inS) := by
  intro pins s σ H x y v u Q I rx ry ⟨A, dx, dy, b, r1, r2, e, q⟩
  cases r1 <;> cases r2 <;> simp only [inS, reduceCtorEq] at e
  split at e
  · rename_i c hc
    cases e
    exact op_in_sign pins s σ H _ _ v u Q I rx ry ⟨c, _, by rw [str_one hc], rfl, q⟩
  · cases e
theorem op_ninSD : OpR X (compareOp .NotIn) (rB X.mg (neg inS)) := by
  intro pins s σ H x y v u Q I rx ry ⟨A, dx, dy, b, r1, r2, e, q⟩
  unfold neg at e
  cases r1 <;> cases r2 <;> simp only [inS, reduceCtorEq, Option.map_none] at e
  split at e
  · rename_i c hc
    cases e
    exact op_notIn_sign pins s σ H _ _ v u Q I rx ry ⟨c, _, by rw [str_one hc], rfl, q⟩
  · cases e
theorem tB_of {K : PySem.W.Frag} {mg : Str → Option Value} {f : D → D → Option Bool} {a b : Ex} {σ : L2.St} {H : Hp} {Q : Bool → Hp → Prop} {τ' : Bool} (h : tT K mg (cmp f a b) σ H Q) : tOp (rB mg f) (tE K mg true a) (tE K mg true b) σ H (fun x H' => ∃ k, x = .bl k ∧ Q k H') := by
  obtain ⟨B, O, env, c, r, h1, q⟩ := h
  obtain ⟨x, hx, h1⟩ := bnd h1
  obtain ⟨y, hy, h1⟩ := bnd h1
  exact ⟨B, O, env, x, r, hx, fun v H1 s1 r1 => ⟨B, O, env, y, r.heap s1, hy, fun w H2 s2 r2 => ⟨_, x, y, c, r1.same s2, r2, h1, c, rfl, q H2 (s1.trans s2)⟩⟩⟩
theorem st_cmp {f : D → D → Option Bool} {op : CmpOp} {a b : Expr} {da db : Ex} {pos : Pos} (ho : OpR X (compareOp op) (rB X.mg f)) (ha : SE X true a da) (hb : SE X true b db) (hm : behindInMarks op b = false := by first | exact nomark _ | rfl) : ST X (.Compare a [op] [b] pos) (cmp f da db) :=
  (pt_cmpR ho ha hb hm).weak fun σ H Q h => tB_of (τ' := true) h
theorem se_cmp {f : D → D → Option Bool} {op : CmpOp} {a b : Expr} {da db : Ex} {pos : Pos} (ho : OpR X (compareOp op) (rB X.mg f)) (ha : SE X true a da) (hb : SE X true b db) (hm : behindInMarks op b = false := by first | exact nomark _ | rfl) : SE X τ (.Compare a [op] [b] pos) (boo (cmp f da db)) :=
  (pe_cmpR ho ha hb hm).weak fun σ H Q ⟨B, O, env, d, r, h1, q⟩ => by
  obtain ⟨c, hc, h2⟩ := Option.map_eq_some_iff.mp h1
  subst h2
  obtain ⟨x, hx, h1⟩ := bnd hc
  obtain ⟨y, hy, h1⟩ := bnd h1
  exact ⟨B, O, env, x, r, hx, fun v H1 s1 r1 => ⟨B, O, env, y, r.heap s1, hy, fun w H2 s2 r2 => ⟨_, x, y, c, r1.same s2, r2, h1, q _ H2 (s1.trans s2) (.bl c)⟩⟩⟩
theorem st_chn {f g : D → D → Option Bool} {op op' : CmpOp} {a b c : Expr} {da db dc : Ex} {pos : Pos} (ho : OpR X (compareOp op) (rB X.mg f)) (ho' : OpR X (compareOp op') (rB X.mg g)) (ha : SE X true a da) (hb : SE X true b db) (hc : SE X true c dc)
    (hm : lastMarks [op, op'] [b, c] = false := by with_unfolding_all rfl) : ST X (.Compare a [op, op'] [b, c] pos) (chn f g da db dc) :=
  (pt_chain ho ho' ha hb hc hm).weak fun σ H Q ⟨B, O, env, k, r, h1, q⟩ => by
  obtain ⟨x, hx, h1⟩ := bnd h1
  obtain ⟨y, hy, h1⟩ := bnd h1
  obtain ⟨c1, hc1, h1⟩ := bnd h1
  refine ⟨B, O, env, x, r, hx, fun v H1 s1 r1 => ⟨B, O, env, y, r.heap s1, hy, fun w H2 s2 r2 => ⟨_, x, y, c1, r1.same s2, r2, hc1, c1, rfl, ?_⟩⟩⟩
  cases c1 with
  | false =>
    cases h1
    exact iteF ⟨_, rfl, q H2 (s1.trans s2)⟩
  | true =>
    obtain ⟨z, hz, h1⟩ := bnd h1
    exact iteT ⟨B, O, env, z, (r.heap s1).heap s2, hz, fun w' H3 s3 r3 => ⟨_, y, z, k, r2.same s3, r3, h1, k, rfl, q H3 ((s1.trans s2).trans s3)⟩⟩
theorem se_chn {f g : D → D → Option Bool} {op op' : CmpOp} {a b c : Expr} {da db dc : Ex} {pos : Pos} (ho : OpR X (compareOp op) (rB X.mg f)) (ho' : OpR X (compareOp op') (rB X.mg g)) (ha : SE X true a da) (hb : SE X true b db) (hc : SE X true c dc)
    (hm : lastMarks [op, op'] [b, c] = false := by with_unfolding_all rfl) : SE X τ (.Compare a [op, op'] [b, c] pos) (boo (chn f g da db dc)) :=
  (pe_chain ho ho' ha hb hc hm).weak fun σ H Q ⟨B, O, env, d, r, h1, q⟩ => by
  obtain ⟨k, hk, h2⟩ := Option.map_eq_some_iff.mp h1
  subst h2
  obtain ⟨x, hx, h1⟩ := bnd hk
  obtain ⟨y, hy, h1⟩ := bnd h1
  obtain ⟨c1, hc1, h1⟩ := bnd h1
  refine ⟨B, O, env, x, r, hx, fun v H1 s1 r1 => ⟨B, O, env, y, r.heap s1, hy, fun w H2 s2 r2 => ⟨_, x, y, c1, r1.same s2, r2, hc1, c1, rfl, ?_⟩⟩⟩
  cases c1 with
  | false =>
    cases h1
    exact iteF (q _ H2 (s1.trans s2) (.bl _))
  | true =>
    obtain ⟨z, hz, h1⟩ := bnd h1
    exact iteT ⟨B, O, env, z, (r.heap s1).heap s2, hz, fun w' H3 s3 r3 => ⟨_, y, z, k, r2.same s3, r3, h1, q _ H3 ((s1.trans s2).trans s3) (.bl _)⟩⟩
theorem st_tes {e : Expr} {de : Ex} (h : SE X true e de) (he : ∀ whole, isTrue e X.env whole = (do let v ← whole; standAt e.pos; holding [v] (truthy v)) := by intro _; rfl) : ST X e (tes de) := (pt_val h he).weak fun σ H Q ⟨B, O, env, b, r, h1, q⟩ => by
  obtain ⟨d, hd, h2⟩ := bnd h1
  refine ⟨B, O, env, d, r, hd, fun v H1 s1 r1 => ?_⟩
  split at h2
  · cases h2
    cases r1
    exact ⟨_, rfl, q H1 s1⟩
  · cases h2
theorem sw_and1 {a : Expr} {ta : Tx} {pos : Pos} (h : ST X a ta) : SWd X (.BoolOp .And [a] pos) ta := pw_and1 h
theorem sw_or1 {a : Expr} {ta : Tx} {pos : Pos} (h : ST X a ta) : SWd X (.BoolOp .Or [a] pos) ta := pw_or1 h
theorem sw_and {a b : Expr} {rest : List Expr} {ta tb : Tx} {pos : Pos} (h1 : ST X a ta) (h2 : SWd X (.BoolOp .And (b :: rest) pos) tb) : SWd X (.BoolOp .And (a :: b :: rest) pos) (andT ta tb) := (pw_and h1 h2).weak fun σ H Q ⟨B, O, env, c, r, e, q⟩ => by
  obtain ⟨ca, ha, e⟩ := bnd e
  refine ⟨B, O, env, ca, r, ha, fun H1 s1 => ?_⟩
  cases ca with
  | true => exact iteT ⟨B, O, env, c, r.heap s1, e, fun H2 s2 => q H2 (s1.trans s2)⟩
  | false =>
    cases e
    exact iteF (q H1 s1)
theorem sw_or {a b : Expr} {rest : List Expr} {ta tb : Tx} {pos : Pos} (h1 : ST X a ta) (h2 : SWd X (.BoolOp .Or (b :: rest) pos) tb) : SWd X (.BoolOp .Or (a :: b :: rest) pos) (orT ta tb) := (pw_or h1 h2).weak fun σ H Q ⟨B, O, env, c, r, e, q⟩ => by
  obtain ⟨ca, ha, e⟩ := bnd e
  refine ⟨B, O, env, ca, r, ha, fun H1 s1 => ?_⟩
  cases ca with
  | false => exact iteF ⟨B, O, env, c, r.heap s1, e, fun H2 s2 => q H2 (s1.trans s2)⟩
  | true =>
    cases e
    exact iteT (q H1 s1)
theorem SWd.st {e : Expr} {t : Tx} (h : SWd X e t) : ST X e t := h.pt
theorem st_not {a : Expr} {ta : Tx} {pos : Pos} (h : ST X a ta) : ST X (.UnaryOp .Not a pos) (notT ta) := (pt_not h).weak fun σ H Q ⟨B, O, env, c, r, e, q⟩ => by
  obtain ⟨k, hk, h2⟩ := Option.map_eq_some_iff.mp e
  subst h2
  exact ⟨B, O, env, k, r, hk, fun H1 s1 => q H1 s1⟩
theorem se_one {op : PySem.BoolOp} {a : Expr} {da : Ex} {pos : Pos} (h : SE X τ a da) : SE X τ (.BoolOp op [a] pos) da := pe_one h
theorem se_and {a b : Expr} {rest : List Expr} {da db : Ex} {pos : Pos} (h1 : SE X τ a da) (h2 : SE X τ (.BoolOp .And (b :: rest) pos) db) : SE X τ (.BoolOp .And (a :: b :: rest) pos) (andV da db) := (pe_and h1 h2).weak fun σ H Q ⟨B, O, env, d, r, e, q⟩ => by
  obtain ⟨x, hx, e⟩ := bnd e
  refine ⟨B, O, env, x, r, hx, fun v H1 s1 r1 => ?_⟩
  split at e
  · cases r1
    exact ⟨_, rfl, iteT ⟨B, O, env, d, r.heap s1, e, fun v H2 s2 r2 => q v H2 (s1.trans s2) r2⟩⟩
  · cases r1
    cases e
    exact ⟨_, rfl, iteF (q _ H1 s1 (.bl _))⟩
  · cases e
theorem se_or {a b : Expr} {rest : List Expr} {da db : Ex} {pos : Pos} (h1 : SE X τ a da) (h2 : SE X τ (.BoolOp .Or (b :: rest) pos) db) : SE X τ (.BoolOp .Or (a :: b :: rest) pos) (orV da db) := (pe_or h1 h2).weak fun σ H Q ⟨B, O, env, d, r, e, q⟩ => by
  obtain ⟨x, hx, e⟩ := bnd e
  refine ⟨B, O, env, x, r, hx, fun v H1 s1 r1 => ?_⟩
  split at e
  · cases r1
    cases e
    exact ⟨_, rfl, iteT (q _ H1 s1 (.bl _))⟩
  · cases r1
    exact ⟨_, rfl, iteF ⟨B, O, env, d, r.heap s1, e, fun v H2 s2 r2 => q v H2 (s1.trans s2) r2⟩⟩
  · cases e
theorem se_not {a : Expr} {da : Ex} {pos : Pos} (h1 : SE X τ a da) : SE X τ (.UnaryOp .Not a pos) (notV da) := (pe_not h1).weak fun σ H Q ⟨B, O, env, d, r, e, q⟩ => by
  obtain ⟨x, hx, e⟩ := bnd e
  refine ⟨B, O, env, x, r, hx, fun v H1 s1 r1 => ?_⟩
  split at e
  · cases r1
    cases e
    exact ⟨_, rfl, q _ H1 s1 (.bl _)⟩
  · cases e
end
end PV

namespace PV
variable [LT] [RT]
open PySem PySem.Spec PyProof.Rows L2
theorem at_get {mg : Str → Option Value} {A : Addr → Prop} {H : Hp} {vs : List V} {ds : List D} {i : Int} {d : D} (r : Reps mg A H vs ds) (e : ((PV.ixN ds.length i).bind fun k => ds[k]?) = some d) : ∃ v, atI vs i = some v ∧ Rep mg A H v d := by
  obtain ⟨k, h1, h2⟩ := bnd e
  obtain ⟨v, h3, h4⟩ := r.get h2
  refine ⟨v, ?_, h4⟩
  unfold atI
  rw [r.len]
  show (PV.ixN ds.length i).bind _ = _
  rw [h1]
  exact h3
section
variable {mg : Str → Option Value} {A : Addr → Prop} {H : Hp} {v : V} {ds ks : List D}
theorem Rep.lst_inv (r : Rep mg A H v (.lst ds)) : ∃ a xs, v = .ref a ∧ A a ∧ H a = some (.lst xs) ∧ Reps mg A H xs ds := by
  cases r
  exact ⟨_, _, rfl, by assumption, by assumption, by assumption⟩
theorem Rep.ftup_inv (r : Rep mg A H v (.ftup ds)) : ∃ a o xs, v = .ref a ∧ H a = some (.frz o (.tup xs)) ∧ o.dict = none ∧ Reps mg A H xs ds := by
  cases r
  exact ⟨_, _, _, rfl, by assumption, by assumption, by assumption⟩
theorem Rep.tup_inv (r : Rep mg A H v (.tup ds)) : ∃ a xs, v = .ref a ∧ H a = some (.tup xs) ∧ Reps mg A H xs ds := by
  cases r
  exact ⟨_, _, rfl, by assumption, by assumption⟩
end
section
variable {X : Cx} {τ : Bool}
theorem ix_getD : IxR X (rD X.mg getD) := by
  intro value slice pins s σ H x y v u Q I rx ry ⟨A, dx, dy, d, fr, r1, r2, e, q⟩ hs
  cases r1 <;> cases r2 <;> simp only [getD, reduceCtorEq] at e
  · split at e
    · rename_i hz
      obtain ⟨k, h1, h2⟩ := bnd e
      obtain ⟨c, h3, h4⟩ := Option.map_eq_some_iff.mp h2
      subst h4
      refine ix_str value slice pins s σ H _ _ v u Q I rx ry ⟨_, _, c, rfl, rfl, szL_ok hz, ?_, q _ H (Same.refl H) (.str _)⟩ hs
      unfold atI
      rename_i z i
      have hl : z.cps.toList.length = z.length := by simp [Str.length]
      rw [hl]
      show (PV.ixN z.length i).bind _ = _
      rw [h1]
      simpa using h3
    · cases e
  · rename_i a xs ds h t i
    obtain ⟨w, h1, h2⟩ := at_get t e
    exact ix_tup value slice pins s σ H _ _ v u Q I rx ry ⟨a, xs, i, w, rfl, rfl, .inl (.inl h), h1, q w H (Same.refl H) h2⟩ hs
  · rename_i a xs ds ha h t i
    obtain ⟨w, h1, h2⟩ := at_get t e
    exact ix_list value slice pins s σ H _ _ v u Q I rx ry ⟨a, xs, i, w, rfl, rfl, .inl (.inl h), h1, q w H (Same.refl H) h2⟩ hs
  · rename_i a ns ha h i
    obtain ⟨k, h1, h2⟩ := bnd e
    obtain ⟨n, h3, h4⟩ := Option.map_eq_some_iff.mp h2
    subst h4
    refine ix_list value slice pins s σ H _ _ v u Q I rx ry ⟨a, _, i, .int n, rfl, rfl, .inl h, ?_, q _ H (Same.refl H) (.int n)⟩ hs
    unfold atI
    rw [List.length_map]
    show (PV.ixN ns.length i).bind _ = _
    rw [h1]
    simp [h3]
  · rename_i a ob xs ds h f t i
    obtain ⟨w, h1, h2⟩ := at_get t e
    exact ix_tup value slice pins s σ H _ _ v u Q I rx ry ⟨a, xs, i, w, rfl, rfl, .inl (.inr ⟨_, h⟩), h1, q w H (Same.refl H) h2⟩ hs
theorem se_get {a b : Expr} {da db : Ex} {pos : Pos} (ha : SE X τ a da) (hb : SE X τ b db) (hs : PlainIx b := by intro _ _; rfl) : SE X τ (.Subscript a b pos) (op2 getD da db) := (pe_ix ix_getD ha hb hs).weak fun _ _ _ h => tOp_of h
def tO (K : PySem.W.Frag) (mg : Str → Option Value) (dp : DEnv → Option (Option Int)) : TO := fun σ H Q => ∃ B O env o, ERel K mg B O σ H env ∧ dp env = some o ∧ ∀ H', Same H H' → Q o H'
abbrev SO (X : Cx) (e : Option Expr) (dp : DEnv → Option (Option Int)) : Prop := PO X e (tO X.K X.mg dp)
theorem so_none : SO X none prN := ⟨fun pins s σ H Q I ⟨B, O, env, o, r, e, q⟩ => by
  cases e
  exact po_none.run pins s σ H Q I (q H (Same.refl H))⟩
theorem so_some {e : Expr} {de : Ex} (h : SE X true e de) : SO X (some e) (prt de) := ⟨fun pins s σ H Q I ⟨B, O, env, o, r, e, q⟩ => by
  refine (po_some h).run pins s σ H Q I ?_
  obtain ⟨d, hd, h2⟩ := bnd e
  refine ⟨B, O, env, d, r, hd, fun v H1 s1 r1 => ?_⟩
  split at h2
  · cases h2
    cases r1
    exact ⟨_, rfl, q H1 s1⟩
  · cases h2⟩
theorem Reps.cut {mg : Str → Option Value} {A : Addr → Prop} {H : Hp} {vs : List V} {ds : List D} {lo hi : Option Int} (r : Reps mg A H vs ds) : Reps mg A H (cutV vs lo hi) (cut ds lo hi) := by
  unfold cutV PV.cut
  rw [r.len]
  exact (r.drop _).take _
theorem slT_of {K : PySem.W.Frag} {mg : Str → Option Value} {f : Option Int → Option Int → D → Option D} {r0 : V → Option Int → Option Int → Hp → VK → Prop} {da : Ex} {lo hi : DEnv → Option (Option Int)} {σ : L2.St} {H : Hp} {Q : VK}
    (hr : ∀ (B : Bs) O (σ : L2.St) env x lo hi H1 dx d Q, ERel K mg B O σ H1 env → Rep mg (Lv B O τ) H1 x dx → f lo hi dx = some d → (∀ v H', Same H1 H' → Rep mg (Lv B O τ) H' v d → Q v H') → r0 x lo hi H1 Q)
    (h : tE K mg τ (slE f da lo hi) σ H Q) : tSl r0 (tE K mg τ da) (tO K mg lo) (tO K mg hi) σ H Q := by
  obtain ⟨B, O, env, d, r, e, q⟩ := h
  obtain ⟨x, hx, e⟩ := bnd e
  obtain ⟨l, hl, e⟩ := bnd e
  obtain ⟨u, hu, e⟩ := bnd e
  refine ⟨B, O, env, x, r, hx, fun v H1 s1 r1 => ⟨B, O, env, l, r.heap s1, hl, fun H2 s2 => ⟨B, O, env, u, (r.heap s1).heap s2, hu, fun H3 s3 => ?_⟩⟩⟩
  exact hr B O σ env v l u H3 x d Q (((r.heap s1).heap s2).heap s3) ((r1.same s2).same s3) e fun v' H' s' rv => q v' H' (((s1.trans s2).trans s3).trans s') rv
theorem se_slT {a : Expr} {da : Ex} {lo hi : Option Expr} {dl dh : DEnv → Option (Option Int)} {p2 pos : Pos} (ha : SE X τ a da) (hl : SO X lo dl) (hh : SO X hi dh) : SE X τ (.Subscript a (.Slice lo hi none p2) pos) (slE slcT da dl dh) :=
  (pe_slice (SlR.or sl_tupA sl_str) ha hl hh).weak fun σ H Q h => slT_of (fun B O σ env x lo hi H1 dx d Q rl r1 e q => by
    cases r1 <;> simp only [slcT, reduceCtorEq] at e
    · split at e
      · rename_i z hz
        cases e
        refine .inr ⟨_, rfl, szL_ok hz, ?_⟩
        have : cutS z lo hi = ⟨(PV.cut z.cps.toList lo hi).toArray⟩ := by
          unfold cutS PV.cut
          have hl : z.cps.toList.length = z.length := by simp [Str.length]
          rw [hl]
          rfl
        rw [this]
        exact q _ H1 (Same.refl H1) (.str _)
      · cases e
    · rename_i a xs ds h t
      cases e
      refine .inl ⟨a, xs, rfl, .inl (.inl h), fun hw => ?_, fun _ p hp => q _ _ (same_upd hp) (.tup upd_same ((Reps.cut t).same (same_upd hp)))⟩
      have : PV.cut ds lo hi = ds := by
        have hw' : PV.six ds.length 0 lo = 0 ∧ PV.six ds.length ds.length hi = ds.length := by rw [← t.len]; exact hw
        unfold PV.cut
        rw [hw'.1, hw'.2]
        simp
      rw [this] at q
      exact q _ H1 (Same.refl H1) (.tup h t)
    · rename_i a ob xs ds h f t
      cases e
      refine .inl ⟨a, xs, rfl, .inl (.inr ⟨_, h⟩), fun hw => ?_, fun nw p hp => ?_⟩
      · have hw' : PV.six ds.length 0 lo = 0 ∧ PV.six ds.length ds.length hi = ds.length := by rw [← t.len]; exact hw
        rw [if_pos hw'] at q
        exact q _ H1 (Same.refl H1) (.ftup h f t)
      · have hw' : ¬ (PV.six ds.length 0 lo = 0 ∧ PV.six ds.length ds.length hi = ds.length) := by rw [← t.len]; exact nw
        rw [if_neg hw'] at q
        exact q _ _ (same_upd hp) (.tup upd_same ((Reps.cut t).same (same_upd hp)))) h
theorem sn_slL {a : Expr} {da : Ex} {lo hi : Option Expr} {dl dh : DEnv → Option (Option Int)} {p2 pos : Pos} (ha : SE X false a da) (hl : SO X lo dl) (hh : SO X hi dh) : SN X (.Subscript a (.Slice lo hi none p2) pos) (slE slcL da dl dh) :=
  (pe_slice sl_list ha hl hh).weak fun σ H Q ⟨B, O, env, d, r, e, q⟩ => by
  obtain ⟨x, hx, e⟩ := bnd e
  obtain ⟨l, hl, e⟩ := bnd e
  obtain ⟨u, hu, e⟩ := bnd e
  refine ⟨B, O, env, x, r, hx, fun v H1 s1 r1 => ⟨B, O, env, l, r.heap s1, hl, fun H2 s2 => ⟨B, O, env, u, (r.heap s1).heap s2, hu, fun H3 s3 => ?_⟩⟩⟩
  cases x <;> simp only [slcL, reduceCtorEq] at e
  obtain ⟨a, xs, rfl, ha, h, t⟩ := r1.lst_inv
  cases e
  have s13 := s2.trans s3
  refine ⟨a, xs, rfl, .inl (.inl (s13 _ _ h)), fun p hp => ?_⟩
  exact q p _ ((s1.trans s13).trans (same_upd hp)) (Same.free (s1.trans s13) hp) (.lst upd_same ((Reps.ne hp ((Reps.cut t).same s13)).same (same_upd hp)))
theorem tCB_of {K : PySem.W.Frag} {mg : Str → Option Value} {F : Fn} {da : Ax} {σ : L2.St} {H : Hp} {Q : VK} (h : tE K mg τ (cal F da) σ H Q) : tCB (rC mg F) (tA K mg τ da) σ H Q := by
  obtain ⟨B, O, env, d, r, e, q⟩ := h
  obtain ⟨ds, hd, e⟩ := bnd e
  exact ⟨B, O, env, ds, r, hd, fun vs H1 s1 r1 => ⟨_, ds, d, (r.heap s1).fr, r1, e, fun v H' s' rv => q v H' (s1.trans s') rv⟩⟩
theorem se_blt {F : Fn} {id : String} {x : Str} {e : Expr} {es : List Expr} {da : Ax} {p pos : Pos} (hc : CallR X (.builtin id) (rC X.mg F)) (hm : X.mg x = none) (hv : bootBuiltins x = some (.builtin id)) (ha : SA X τ (e :: es) da) (hg : Gl X x := by rfl) (hn : x ≠ "__name__" := by decide) (hdb : (x == ("__debug__" : Str)) = false := by decide)
    (he : starEach (e :: es) X.env = (false, eval e X.env) :: starEach es X.env := by rfl) (hpl : (backTo pos (starEach es X.env)).any (·.1) = false := by rfl) : SE X τ (.Call (.Name x p) (e :: es) [] pos) (cal F da) := (pe_callB hc hg hm hv ha hn hdb he hpl).weak fun _ _ _ h => tCB_of h
theorem se_bty {F : Fn} {T : String} {x : Str} {e : Expr} {es : List Expr} {da : Ax} {p pos : Pos} (hc : CallR X (.type T) (rC X.mg F)) (hm : X.mg x = none) (hv : bootBuiltins x = some (.type T)) (ha : SA X τ (e :: es) da) (hg : Gl X x := by rfl) (hn : x ≠ "__name__" := by decide) (hdb : (x == ("__debug__" : Str)) = false := by decide)
    (he : starEach (e :: es) X.env = (false, eval e X.env) :: starEach es X.env := by rfl) (hpl : (backTo pos (starEach es X.env)).any (·.1) = false := by rfl) : SE X τ (.Call (.Name x p) (e :: es) [] pos) (cal F da) := (pe_callTy hc hg hm hv ha hn hdb he hpl).weak fun _ _ _ h => tCB_of h
theorem f1_one {f : D → Option D} {ds : List D} {d : D} (h : f1 f ds = some d) : ∃ x, ds = [x] ∧ f x = some d := by
  unfold f1 at h
  split at h
  · exact ⟨_, rfl, h⟩
  · cases h
theorem reps_one {mg : Str → Option Value} {A : Addr → Prop} {H : Hp} {vs : List V} {x : D} (r : Reps mg A H vs [x]) : ∃ v, vs = [v] ∧ Rep mg A H v x := by
  cases r with
  | cons h t => cases t; exact ⟨_, rfl, h⟩
theorem cr_lenD : CallR X (.builtin "len") (rC X.mg (f1 lenD)) := by
  intro pins s σ H xs us Q I r ⟨A, ds, d, fr, r1, e, q⟩
  obtain ⟨x, rfl, e2⟩ := f1_one e
  clear e
  obtain ⟨v, rfl, rx⟩ := reps_one r1
  cases rx <;> simp only [lenD, reduceCtorEq] at e2
  · split at e2
    · rename_i hz
      cases e2
      exact call_len_str pins s σ H _ us Q I r ⟨_, rfl, szL_ok hz, q _ H (Same.refl H) (.int _)⟩
    · cases e2
  · rename_i a xs ds h t
    cases e2
    exact call_len_seq pins s σ H _ us Q I r ⟨a, xs, rfl, .inr (.inl (.inl h)), by rw [t.len]; exact q _ H (Same.refl H) (.int _)⟩
  · rename_i a xs ds ha h t
    cases e2
    exact call_len_seq pins s σ H _ us Q I r ⟨a, xs, rfl, .inl (.inl (.inl h)), by rw [t.len]; exact q _ H (Same.refl H) (.int _)⟩
  · rename_i a ns ha h
    cases e2
    exact call_len_seq pins s σ H _ us Q I r ⟨a, _, rfl, .inl (.inl h), by rw [List.length_map]; exact q _ H (Same.refl H) (.int _)⟩
  · rename_i a ob xs ds h f t
    cases e2
    exact call_len_seq pins s σ H _ us Q I r ⟨a, xs, rfl, .inr (.inl (.inr ⟨_, h⟩)), by rw [t.len]; exact q _ H (Same.refl H) (.int _)⟩
theorem cr_intD : CallR X (.type "int") (rC X.mg (f1 intD)) := by
  intro pins s σ H xs us Q I r ⟨A, ds, d, fr, r1, e, q⟩
  obtain ⟨x, rfl, e2⟩ := f1_one e
  clear e
  obtain ⟨v, rfl, rx⟩ := reps_one r1
  cases rx <;> simp only [intD, reduceCtorEq] at e2
  · rename_i b
    cases e2
    exact call_int1 pins s σ H _ us Q I r (.inr ⟨b, rfl, q _ H (Same.refl H) (.int _)⟩)
  · cases e2
    exact call_int1 pins s σ H _ us Q I r (.inl ⟨_, rfl, q _ H (Same.refl H) (.int _)⟩)
theorem ints_of {mg : Str → Option Value} {A : Addr → Prop} {H : Hp} : ∀ {vs : List V} {ds : List D} {ns : List Int}, Reps mg A H vs ds → intsOf ds = some ns → vs = ns.map V.int
  | _, _, _, .nil, e => by
    simp only [intsOf] at e
    cases e
    rfl
  | _, _, _, .cons h t, e => by
    cases h <;> simp only [intsOf, reduceCtorEq] at e
    obtain ⟨r, h1, h2⟩ := Option.map_eq_some_iff.mp e
    subst h2
    rw [List.map_cons, ← ints_of t h1]
theorem bls_of {mg : Str → Option Value} {A : Addr → Prop} {H : Hp} : ∀ {vs : List V} {ds : List D} {ns : List Bool}, Reps mg A H vs ds → blsOf ds = some ns → vs = ns.map V.bl
  | _, _, _, .nil, e => by
    simp only [blsOf] at e
    cases e
    rfl
  | _, _, _, .cons h t, e => by
    cases h <;> simp only [blsOf, reduceCtorEq] at e
    obtain ⟨r, h1, h2⟩ := Option.map_eq_some_iff.mp e
    subst h2
    rw [List.map_cons, ← bls_of t h1]
theorem cr_sumL (hc : X.calm = true) : CallR X (.builtin "sum") (rC X.mg (f1 sumL)) := by
  intro pins s σ H xs us Q I r ⟨A, ds, d, fr, r1, e, q⟩
  obtain ⟨x, rfl, e2⟩ := f1_one e
  clear e
  obtain ⟨v, rfl, rx⟩ := reps_one r1
  cases rx <;> simp only [sumL, reduceCtorEq] at e2
  rename_i a xs ds ha h t
  obtain ⟨ns, h1, h2⟩ := Option.map_eq_some_iff.mp e2
  subst h2
  have := ints_of t h1
  subst this
  exact cr_sum hc pins s σ H _ us Q I r ⟨a, ns, rfl, .inl (.inl h), q _ H (Same.refl H) (.int _)⟩
theorem cr_allL (hc : X.calm = true) : CallR X (.builtin "all") (rC X.mg (f1 allL)) := by
  intro pins s σ H xs us Q I r ⟨A, ds, d, fr, r1, e, q⟩
  obtain ⟨x, rfl, e2⟩ := f1_one e
  clear e
  obtain ⟨v, rfl, rx⟩ := reps_one r1
  cases rx <;> simp only [allL, reduceCtorEq] at e2
  rename_i a xs ds ha h t
  obtain ⟨ns, h1, h2⟩ := Option.map_eq_some_iff.mp e2
  subst h2
  have := bls_of t h1
  subst this
  exact cr_all hc pins s σ H _ us Q I r ⟨a, ns, rfl, .inl (.inl h), q _ H (Same.refl H) (.bl _)⟩
end
end PV

namespace PV
variable [LT] [RT]
open PySem PySem.Spec PyProof.Rows L2
section
variable {K : PySem.W.Frag} {mg : Str → Option Value} {A : Addr → Prop} {H H1 : Hp} {a b : Addr} {vs ws : List V} {ds es : List D}
abbrev Tr (A : Addr → Prop) (H1 : Hp) : Addr → Prop := fun a => A a ∧ ∃ o, H1 a = some o
theorem reps_tr (r : Reps mg A H1 vs ds) : Reps mg (Tr A H1) H1 vs ds := r.keepT fun a h o => ⟨h, o⟩
theorem walks_list (ha : A a) (h : H1 a = some (.lst vs)) (r : Reps mg A H1 vs ds) : Walks mg (Tr A H1) (Itl K a) ds H1 := by
  intro i H k
  have hq : SqL K H a vs := .inl (.inl (k.lst a vs ⟨ha, _, h⟩ h))
  refine ⟨fun x e => ?_, fun e => ?_⟩
  · obtain ⟨v, h1, h2⟩ := (reps_tr r).get e
    refine ⟨⟨vs, v, hq, h1⟩, fun v' H' y => ?_⟩
    obtain ⟨e1, e2⟩ := y
    subst e1
    have := e2 vs hq
    rw [h1] at this
    cases this
    exact ⟨Same.refl _, h2.mono (fun _ z => z) k⟩
  · refine ⟨vs, hq, ?_⟩
    rw [r.len]
    exact List.getElem?_eq_none_iff.mp e
theorem walks_tup (h : H1 a = some (.tup vs)) (r : Reps mg A H1 vs ds) : Walks mg (Tr A H1) (Itt K a) ds H1 := by
  intro i H k
  have hq : SqT K H a vs := .inl (.inl (k.tup a vs h))
  refine ⟨fun x e => ?_, fun e => ?_⟩
  · obtain ⟨v, h1, h2⟩ := (reps_tr r).get e
    refine ⟨⟨vs, v, hq, h1⟩, fun v' H' y => ?_⟩
    obtain ⟨e1, e2⟩ := y
    subst e1
    have := e2 vs hq
    rw [h1] at this
    cases this
    exact ⟨Same.refl _, h2.mono (fun _ z => z) k⟩
  · refine ⟨vs, hq, ?_⟩
    rw [r.len]
    exact List.getElem?_eq_none_iff.mp e
theorem walks_ftup {o : Obj} (h : H1 a = some (.frz o (.tup vs))) (r : Reps mg A H1 vs ds) : Walks mg (Tr A H1) (Itt K a) ds H1 := by
  intro i H k
  have hq : SqT K H a vs := .inl (.inr ⟨o, k.fz a o vs h⟩)
  refine ⟨fun x e => ?_, fun e => ?_⟩
  · obtain ⟨v, h1, h2⟩ := (reps_tr r).get e
    refine ⟨⟨vs, v, hq, h1⟩, fun v' H' y => ?_⟩
    obtain ⟨e1, e2⟩ := y
    subst e1
    have := e2 vs hq
    rw [h1] at this
    cases this
    exact ⟨Same.refl _, h2.mono (fun _ z => z) k⟩
  · refine ⟨vs, hq, ?_⟩
    rw [r.len]
    exact List.getElem?_eq_none_iff.mp e
theorem walks_range {lo : Int} {n : Nat} : Walks mg A (Itr lo n) ((List.range n).map fun (k : Nat) => D.int (lo + (k : Int))) H1 := by
  intro i H k
  refine ⟨fun x e => ?_, fun e => ?_⟩
  · have hi : i < n := by
      have := (List.getElem?_eq_some_iff.mp e).1
      simpa using this
    refine ⟨hi, fun v' H' y => ?_⟩
    obtain ⟨e1, e2⟩ := y
    subst e1 e2
    rw [List.getElem?_map, List.getElem?_range hi] at e
    cases e
    exact ⟨Same.refl _, .int _⟩
  · have := List.getElem?_eq_none_iff.mp e
    show n ≤ i
    simpa using this
end
section
variable {X : Cx} {τ : Bool}
theorem si_list {tg e : Expr} {de : Ex} (h : SE X false e de) : SI X tg e (iLst de) := (pi_list h).weak fun σ H R ⟨B, O, env, ds, r, e, q⟩ => by
  obtain ⟨d, hd, h2⟩ := bnd e
  refine ⟨B, O, env, d, r, hd, fun v H1 s1 r1 => ?_⟩
  cases d <;> simp only [reduceCtorEq] at h2
  cases h2
  obtain ⟨a, xs, rfl, ha, h, t⟩ := r1.lst_inv
  exact ⟨a, rfl, ⟨xs, .inl (.inl h)⟩, q _ H1 s1 (walks_list ha h t)⟩
theorem si_tup {tg e : Expr} {de : Ex} (h : SE X false e de) : SI X tg e (iTp de) := (pi_tup h).weak fun σ H R ⟨B, O, env, ds, r, e, q⟩ => by
  obtain ⟨d, hd, h2⟩ := bnd e
  refine ⟨B, O, env, d, r, hd, fun v H1 s1 r1 => ?_⟩
  cases d <;> simp only [reduceCtorEq] at h2
  · cases h2
    obtain ⟨a, xs, rfl, h, t⟩ := r1.tup_inv
    exact ⟨a, rfl, ⟨xs, .inl (.inl h)⟩, q _ H1 s1 (walks_tup h t)⟩
  · cases h2
    obtain ⟨a, o, xs, rfl, h, _, t⟩ := r1.ftup_inv
    exact ⟨a, rfl, ⟨xs, .inl (.inr ⟨o, h⟩)⟩, q _ H1 s1 (walks_ftup h t)⟩
theorem si_rng1 {tg a : Expr} {da : Ax} {p pos : Pos} (hm : X.mg "range" = none) (ha : SA X true [a] da) (hg : Gl X "range" := by rfl) (hs : starEach [a] X.env = [(false, eval a X.env)] := by rfl) : SI X tg (.Call (.Name "range" p) [a] [] pos) (iRng (one1 da)) :=
  (pi_range1 hg hm ha hs).weak fun σ H R ⟨B, O, env, ds, r, e, q⟩ => by
  obtain ⟨l, hl, h2⟩ := bnd e
  obtain ⟨l', hl', h3⟩ := bnd hl
  split at h3
  · cases h3
    rename_i d
    refine ⟨B, O, env, [d], r, hl', fun vs H1 s1 r1 => ?_⟩
    obtain ⟨v, rfl, rv⟩ := reps_one r1
    cases d <;> simp only [rngL, reduceCtorEq] at h2
    split at h2
    · rename_i n hz
      cases h2
      cases rv
      simp only [decide_eq_true_eq] at hz
      refine ⟨n, rfl, hz.1, hz.2, q _ H1 s1 ?_⟩
      have := walks_range (mg := X.mg) (A := fun a => Lv B O false a ∧ ∃ o, H1 a = some o) (H1 := H1) (lo := 0) (n := n.toNat)
      simpa using this
    · cases h2
  · cases h3
theorem si_rng2 {tg a b : Expr} {da : Ax} {p pos : Pos} (hm : X.mg "range" = none) (ha : SA X true [a, b] da) (hg : Gl X "range" := by rfl) (hs : starEach [a, b] X.env = [(false, eval a X.env), (false, eval b X.env)] := by rfl) (hs2 : starEach [b] X.env = [(false, eval b X.env)] := by rfl) : SI X tg (.Call (.Name "range" p) [a, b] [] pos) (iRng (two2 da)) :=
  (pi_range2 hg hm ha hs hs2).weak fun σ H R ⟨B, O, env, ds, r, e, q⟩ => by
  obtain ⟨l, hl, h2⟩ := bnd e
  obtain ⟨l', hl', h3⟩ := bnd hl
  split at h3
  · cases h3
    rename_i d d2
    refine ⟨B, O, env, [d, d2], r, hl', fun vs H1 s1 r1 => ?_⟩
    cases r1 with
    | cons rv r1 =>
      obtain ⟨w, rfl, rw'⟩ := reps_one r1
      cases d <;> cases d2 <;> simp only [rngL, reduceCtorEq] at h2
      split at h2
      · rename_i m n hz
        cases h2
        cases rv
        cases rw'
        simp only [decide_eq_true_eq] at hz
        exact ⟨m, n, rfl, hz, q _ H1 s1 walks_range⟩
      · cases h2
  · cases h3
theorem wip_get {e : DEnv} {x : DSlot} : ∀ {ws : List Nat} {i : Nat}, (wip e ws)[i]? = some x → x = .no ∨ (e[i]? = some x ∧ i ∉ ws)
  | [], i, h => .inr ⟨h, by simp⟩
  | w :: ws, i, h => by
    unfold wip at h
    rcases get_set h with ⟨rfl, rfl, _⟩ | ⟨hi, h⟩
    · exact .inl rfl
    · rcases wip_get h with z | ⟨z, n⟩
      · exact .inl z
      · exact .inr ⟨z, by simp [hi, n]⟩
theorem wip_len {e : DEnv} : ∀ {ws : List Nat}, (wip e ws).length = e.length
  | [] => rfl
  | w :: ws => by unfold wip; rw [List.length_set, wip_len]
theorem wipe_get {σ : L2.St} {i : Nat} : ∀ {ws : List Nat}, i ∉ ws → (wipe σ ws)[i]? = σ[i]?
  | [], _ => rfl
  | w :: ws, h => by
    simp only [List.mem_cons, not_or] at h
    unfold wipe
    rw [List.getElem?_set_ne (Ne.symm h.1), wipe_get h.2]
theorem ERel.noO {K : PySem.W.Frag} {mg : Str → Option Value} {B : Bs} {O : Nat → Option Addr} {σ : L2.St} {H : Hp} {env : DEnv} (r : ERel K mg B O σ H env) {ws : List Nat} (hn : noOwn env ws = true) {i : Nat} (hi : i ∈ ws) (hl : i < env.length) : O i = none := by
  cases e : O i with
  | none => rfl
  | some p =>
    have := List.all_eq_true.mp hn i hi
    obtain ⟨d, h | h⟩ := r.nst i p e hl <;> (rw [h] at this; cases this)
theorem ERel.wip {K : PySem.W.Frag} {mg : Str → Option Value} {B : Bs} {O : Nat → Option Addr} {σ : L2.St} {H : Hp} {env : DEnv} (r : ERel K mg B O σ H env) (ws : List Nat) (hn : noOwn env ws = true) : ERel K mg B O (wipe σ ws) H (PV.wip env ws) := by
  refine ⟨by rw [wip_len, wipe_length]; exact r.len, r.same, fun i d e => ?_, fun i d e => ?_, fun i d e => ?_, r.inj, r.trk, r.fr0, r.bd, fun i p a hl => ?_⟩
  · rcases wip_get e with z | ⟨z, n⟩
    · cases z
    · rw [wipe_get n]; exact r.vals i d z
  · rcases wip_get e with z | ⟨z, n⟩
    · cases z
    · rw [wipe_get n]; exact r.owns i d z
  · rcases wip_get e with z | ⟨z, n⟩
    · cases z
    · rw [wipe_get n]; exact r.slfs i d z
  · rw [wip_len] at hl
    have nw : i ∉ ws := fun hi => by
      rw [r.noO hn hi hl] at a; cases a
    have : ∀ (us : List Nat), i ∉ us → (PV.wip env us)[i]? = env[i]? := by
      intro us
      induction us with
      | nil => intro _; rfl
      | cons u us ih =>
        intro h
        simp only [List.mem_cons, not_or] at h
        show ((PV.wip env us).set u .no)[i]? = _
        rw [List.getElem?_set_ne (Ne.symm h.1), ih h.2]
    rw [this ws nw]
    exact r.nst i p a hl
theorem ERel.more {K : PySem.W.Frag} {mg : Str → Option Value} {B : Bs} {O : Nat → Option Addr} {σ : L2.St} {H : Hp} {env : DEnv} {p : Addr} {o : HO} (r : ERel K mg B O σ H env) (hp : H p = none) (w : Wr o) :
    ∃ n, env.length ≤ n ∧ ERel K mg B (putO O n p) σ (upd H p o) env ∧ ∀ τ a, Lv B (putO O n p) τ a → Lv B O τ a := by
  obtain ⟨n0, hn0⟩ := r.bd
  have hn : O (n0 + env.length) = none := hn0 _ (by omega)
  have h0 : B.H0 p = none := Same.free r.same hp
  have nO : ∀ j, O j ≠ some p := fun j e => by
    obtain ⟨o, z, _⟩ := r.trk j p e
    rw [hp] at z; cases z
  have s := same_upd (o := o) hp
  have lt : ∀ {i : Nat} {x : DSlot}, env[i]? = some x → i ≠ n0 + env.length := fun {i x} e => by
    have := (List.getElem?_eq_some_iff.mp e).1
    omega
  have up : ∀ a, (Lv B O false a ∧ a ≠ p) → Lv B (putO O (n0 + env.length) p) false a := fun a h => ⟨h.1.1, .inr fun j e => by
    unfold putO at e
    split at e
    · exact h.2 (Option.some.inj e).symm
    · exact (h.1.2.elim (fun z => Bool.noConfusion z) fun z => z) j e⟩
  have put : ∀ {i : Nat} {q : Addr}, i ≠ n0 + env.length → O i = some q → putO O (n0 + env.length) p i = some q := fun {i q} h e => by unfold putO; rw [if_neg h]; exact e
  have ow : ∀ {q : Addr} {d : D}, Own mg (Lv B O false) H q d → Own mg (Lv B (putO O (n0 + env.length) p) false) (upd H p o) q d := fun {q d} h4 => by
    cases h4 with
    | lst h r => exact .lst (s _ _ h) (((Reps.ne hp r).mono up keepRefl).same s)
    | dicK h r => exact .dicK (s _ _ h) (((Reps.ne hp r).mono up keepRefl).same s)
    | dicT h r => exact .dicT (s _ _ h) (((Reps.ne hp r).mono up keepRefl).same s)
    | ins h c r => exact .ins (s _ _ h) c (((Reps.ne hp r).mono up keepRefl).same s)
  refine ⟨n0 + env.length, by omega, ⟨r.len, r.same.trans s, fun i d e => ?_, fun i d e => ?_, fun i d e => ?_, fun j k q a b => ?_, fun j q a => ?_, fun j q a => ?_, bd_put r.bd, fun j q a hl => r.nst j q (by unfold putO at a; rw [if_neg (by omega)] at a; exact a) hl⟩, fun τ a h => ⟨h.1, h.2.elim .inl fun z => .inr fun j e => ?_⟩⟩
  · obtain ⟨v, h1, h2⟩ := r.vals i d e
    exact ⟨v, h1, ((Rep.ne hp h2).mono up keepRefl).same s⟩
  · obtain ⟨q, h1, h2, h3, h4⟩ := r.owns i d e
    exact ⟨q, put (lt e) h1, h2, h3, ow h4⟩
  · obtain ⟨h1, h2, h4⟩ := r.slfs i d e
    exact ⟨put (lt e) h1, h2, ow h4⟩
  · unfold putO at a b
    split at a <;> split at b
    · rename_i e1 e2; exact e1.trans e2.symm
    · cases a; exact absurd b (nO _)
    · cases b; exact absurd a (nO _)
    · exact r.inj j k q a b
  · unfold putO at a
    split at a
    · cases a; exact ⟨o, upd_same, w⟩
    · obtain ⟨o', z, w'⟩ := r.trk j q a
      haveI := Wr.nt w'
      exact ⟨o', s _ _ z, w'⟩
  · unfold putO at a
    split at a
    · cases a; exact h0
    · exact r.fr0 j q a
  · by_cases ej : j = n0 + env.length
    · subst ej; rw [hn] at e; cases e
    · exact z j (put ej e)
theorem wipe_idem {e : L2.St} : ∀ {vs : List Nat}, wipe (wipe e vs) vs = wipe e vs := by
  have aux : ∀ (us : List Nat) (e : L2.St), (∀ i ∈ us, e[i]? = some none ∨ e[i]? = none) → wipe e us = e := by
    intro us
    induction us with
    | nil => intro e _; rfl
    | cons u us ih =>
      intro e h
      show (wipe e us).set u none = e
      rw [ih e fun i hi => h i (List.mem_cons_of_mem _ hi)]
      apply List.ext_getElem?
      intro j
      by_cases hj : j = u
      · subst hj
        rcases h j List.mem_cons_self with z | z
        · have hl := (List.getElem?_eq_some_iff.mp z).1
          rw [List.getElem?_set_self hl, z]
        · rw [z, List.getElem?_eq_none]
          have := List.getElem?_eq_none_iff.mp z
          simpa using this
      · rw [List.getElem?_set_ne (Ne.symm hj)]
  intro vs
  refine aux vs _ fun i hi => ?_
  cases z : (wipe e vs)[i]? with
  | none => exact .inr rfl
  | some x =>
    cases x with
    | none => exact .inl rfl
    | some v => exact absurd hi (wipe_some z).2
theorem ERel.poke {K : PySem.W.Frag} {mg : Str → Option Value} {B : Bs} {H : Hp} {O : Nat → Option Addr} {σ : L2.St} {env : DEnv} {n : Nat} {p : Addr} {o' : HO} (r : ERel K mg B O σ H env) (hO : O n = some p) (hn : env.length ≤ n) (hw : Wr o') : ERel K mg B O σ (upd H p o') env := by
  have k : Keep (Lv B O false) H (upd H p o') := keep_write r hO
  have h0 := r.fr0 n p hO
  have lt : ∀ {i : Nat} {x : DSlot}, env[i]? = some x → i ≠ n := fun {i x} e => by
    have := (List.getElem?_eq_some_iff.mp e).1
    omega
  obtain ⟨o0, hp0, w0⟩ := r.trk n p hO
  refine ⟨r.len, r.same.put h0 hp0 w0, fun i d e => let ⟨v, h1, h2⟩ := r.vals i d e; ⟨v, h1, h2.mono (fun _ z => z) k⟩, fun i d e => ?_, fun i d e => ?_, r.inj, fun j q a => ?_, r.fr0, r.bd, r.nst⟩
  · obtain ⟨q, h1, h2, h3, h4⟩ := r.owns i d e
    have nq : q ≠ p := fun z => lt e (r.inj i n p (z ▸ h1) hO)
    exact ⟨q, h1, h2, h3, h4.mono (fun _ z => z) k fun o z _ => by rw [upd_ne nq]; exact z⟩
  · obtain ⟨h1, h2, h4⟩ := r.slfs i d e
    have nq : B.sf ≠ p := fun z => lt e (r.inj i n p (z ▸ h1) hO)
    exact ⟨h1, h2, h4.mono (fun _ z => z) k fun o z _ => by rw [upd_ne nq]; exact z⟩
  · by_cases e : q = p
    · subst e; exact ⟨o', upd_same, hw⟩
    · obtain ⟨o, z, w⟩ := r.trk j q a
      exact ⟨o, by rw [upd_ne e]; exact z, w⟩
theorem off_id {O : Nat → Option Addr} {i : Nat} (h : O i = none) : offO O i = O := by
  funext j
  unfold offO
  split
  · rename_i e; rw [e, h]
  · rfl
mutual
theorem tgR_oks {K : PySem.W.Frag} {mg : Str → Option Value} {B : Bs} : ∀ (g : Tg) {O : Nat → Option Addr} {σ : L2.St} {env env' : DEnv} {v : V} {d : D} {H : Hp} {Q : L2.St → Hp → Prop}, ERel K mg B O σ H env → (∀ i ∈ g.slots, O i = none) → Rep mg (Lv B O false) H v d → gD g d env = some env' →
    (∀ σ', ERel K mg B O σ' H env' → Only1 σ σ' g.slots → Q σ' H) → tgR K g v σ H Q
  | .n i, O, σ, env, env', v, d, H, Q, r, hn, rv, e, q => by
    simp only [gD, Option.some.injEq] at e
    subst e
    have z := ERel.set (i := i) r rv
    rw [off_id (hn i (by simp [Tg.slots]))] at z
    exact q _ z fun vs hv => wipe_set (hv i (by simp [Tg.slots]))
  | .t l, O, σ, env, env', v, d, H, Q, r, hn, rv, e, q => by
    cases d <;> simp only [gD, reduceCtorEq] at e
    obtain ⟨a, xs, rfl, hs, rs⟩ := rv.tup_inv
    exact ⟨a, xs, rfl, .inl (.inl hs), by rw [rs.len]; exact gDs_len e, tgRs_oks l r (fun i hi => hn i (by simpa [Tg.slots] using hi)) rs e fun σ' r' w => q σ' r' (by simpa only [Tg.slots] using w)⟩
theorem tgRs_oks {K : PySem.W.Frag} {mg : Str → Option Value} {B : Bs} : ∀ (l : List Tg) {O : Nat → Option Addr} {σ : L2.St} {env env' : DEnv} {vs : List V} {ds : List D} {H : Hp} {Q : L2.St → Hp → Prop}, ERel K mg B O σ H env → (∀ i ∈ Tg.slotss l, O i = none) → Reps mg (Lv B O false) H vs ds → gDs l ds env = some env' →
    (∀ σ', ERel K mg B O σ' H env' → Only1 σ σ' (Tg.slotss l) → Q σ' H) → tgRs K l vs σ H Q
  | [], O, σ, env, env', vs, ds, H, Q, r, hn, rs, e, q => by
    cases ds with
    | nil =>
      simp only [gDs, Option.some.injEq] at e
      subst e
      cases rs
      exact ⟨rfl, q _ r fun _ _ => rfl⟩
    | cons _ _ => simp [gDs] at e
  | g :: gs, O, σ, env, env', vs, ds, H, Q, r, hn, rs, e, q => by
    cases ds with
    | nil => simp [gDs] at e
    | cons d ds =>
      simp only [gDs] at e
      obtain ⟨e1, h1, h2⟩ := bnd e
      cases rs with
      | cons rv rs =>
        refine ⟨_, _, rfl, tgR_oks g r (fun i hi => hn i (by simp [Tg.slotss, hi])) rv h1 fun σ1 r1 w1 => ?_⟩
        refine tgRs_oks gs r1 (fun i hi => hn i (by simp [Tg.slotss, hi])) rs h2 fun σ2 r2 w2 => q _ r2 fun vs hv => ?_
        simp only [Tg.slotss, List.mem_append] at hv
        rw [w2 vs fun i hi => hv i (.inr hi), w1 vs fun i hi => hv i (.inl hi)]
end
theorem lc_of {K : PySem.W.Frag} {mg : Str → Option Value} {di : Ax} {g : Tg} {dt : Tx} {tt : TT} {te : Ex} {ws : List Nat} {σ : L2.St} {H : Hp} {Q : VK} (hw : ∀ i ∈ g.slots, i ∈ ws)
    (htt : ∀ B O σ env b H Q, ERel K mg B O σ H env → dt env = some b → (∀ H', Same H H' → Q b H') → tt σ H Q)
    (h : tN K mg (lcE di g dt te ws) σ H Q) : tLc (tI K mg di) (tgR K g) tt (tE K mg false te) ws σ H Q := by
  obtain ⟨B, O, env, d, rl, e, q⟩ := h
  obtain ⟨xs, hx, e⟩ := bnd e
  split at e
  · rename_i hz
    obtain ⟨hz, hno⟩ := hz
    obtain ⟨ys, hr, e⟩ := bnd e
    cases e
    refine ⟨B, O, env, xs, rl, hx, fun J H1 s1 wk => fun D hD => ?_⟩
    have rl1 := rl.heap s1
    have hws : ∀ i ∈ ws, i < σ.length := fun i hi => by
      have z := List.all_eq_true.mp hno i hi
      rw [← rl.len]
      cases e : (env[i]? : Option DSlot) with
      | none => rw [e] at z; cases z
      | some x => exact (List.getElem?_eq_some_iff.mp e).1
    have noO : ∀ i ∈ ws, O i = none := fun i hi => rl.noO hno hi (by rw [rl.len]; exact hws i hi)
    obtain ⟨n, hnl, rm, sub⟩ := (rl1.wip ws hno).more (o := .lst []) hD trivial
    have hOn : putO O n D n = some D := by unfold putO; rw [if_pos rfl]
    have hlen : (PV.wip env ws).length = σ.length := by rw [wip_len]; exact rl.len
    have noP : ∀ i ∈ g.slots, putO O n D i = none := fun i hi => by
      have := hws i (hw i hi)
      unfold putO
      rw [if_neg (by omega)]
      exact noO i (hw i hi)
    refine ⟨fun i m H' => m = xs.length - i ∧ i ≤ xs.length ∧ ∃ vs ys1 ys2, H' D = some (.lst vs) ∧ ERel K mg B (putO O n D) (wipe σ ws) H' (PV.wip env ws) ∧ Reps mg (Lv B (putO O n D) false) H' vs ys1 ∧ ys1.length ≤ i ∧ lcRun (gD g) dt te (PV.wip env ws) (xs.drop i) = some ys2 ∧ ys = ys1 ++ ys2 ∧ Same H1 H',
      ⟨xs.length, by simp, Nat.zero_le _, [], [], ys, upd_same, rm, .nil, Nat.le_refl _, by simpa using hr, rfl, same_upd hD⟩, ?_⟩
    rintro i m H' ⟨rfl, hi', vs, ys1, ys2, hHD, rl', rs, hly, hrun, hys, sm⟩
    by_cases hlt : i < xs.length
    · have hxi : xs[i]? = some xs[i] := List.getElem?_eq_getElem hlt
      obtain ⟨go, yl⟩ := (wk i H' (Same.keep sm)).1 _ hxi
      rw [List.drop_eq_getElem_cons hlt] at hrun
      unfold lcRun at hrun
      obtain ⟨e1, he1, hrun⟩ := bnd hrun
      obtain ⟨c, hc, hrun⟩ := bnd hrun
      refine .inr ⟨go, fun H'' => ∃ vs ys1 ys2, H'' D = some (.lst vs) ∧ ERel K mg B (putO O n D) (wipe σ ws) H'' (PV.wip env ws) ∧ Reps mg (Lv B (putO O n D) false) H'' vs ys1 ∧ ys1.length ≤ i + 1 ∧ lcRun (gD g) dt te (PV.wip env ws) (xs.drop (i + 1)) = some ys2 ∧ ys = ys1 ++ ys2 ∧ Same H1 H'',
        fun H'' z => ⟨xs.length - (i + 1), by omega, rfl, hlt, z⟩, fun v H3 y => ?_⟩
      obtain ⟨s3, rv⟩ := yl v H3 y
      have rl3 := rl'.heap s3
      have rv' : Rep mg (Lv B (putO O n D) false) H3 v xs[i] := rv.mono (fun a ha => ⟨ha.1.1, .inr fun j z => by
        unfold putO at z
        split at z
        · cases z
          obtain ⟨o, ho⟩ := ha.2
          rw [hD] at ho; cases ho
        · exact ha.1.2.elim (fun z => Bool.noConfusion z) fun w => w j z⟩) keepRefl
      refine tgR_oks g rl3 noP rv' he1 fun σ4 r4 w4 => ⟨by rw [w4 ws hw]; exact wipe_idem, ?_⟩
      refine htt B _ σ4 e1 c H3 _ r4 hc fun H5 s5 => ?_
      cases c with
      | true =>
        obtain ⟨yv, hyv, hrun⟩ := bnd hrun
        obtain ⟨ys', hys', hrun⟩ := bnd hrun
        cases hrun
        refine iteT ⟨B, _, e1, yv, r4.heap s5, hyv, fun w H6 s6 rw6 => ?_⟩
        have s36 := s3.trans (s5.trans s6)
        have hD6 : H6 D = some (.lst vs) := s36 _ _ hHD
        have rl6 := rl'.heap s36
        refine ⟨vs, hD6, ?_, vs ++ [w], ys1 ++ [yv], ys', upd_same, rl6.poke hOn (by omega) trivial, ?_, by simp; omega, hys', by rw [hys]; simp, ?_⟩
        · have : vs.length ≤ i := by rw [rs.len]; exact hly
          have hz' := szL_ok hz
          omega
        · have k := keep_write (o' := .lst (vs ++ [w])) rl6 hOn
          exact ((rs.same s36).mono (fun _ z => z) k).append (.cons (rw6.mono (fun _ z => z) k) .nil)
        · exact (sm.trans s36).put hD hD6 trivial
      | false =>
        have s35 := s3.trans s5
        exact iteF ⟨vs, ys1, ys2, s35 _ _ hHD, rl'.heap s35, rs.same s35, by omega, hrun, hys, sm.trans s35⟩
    · have hn : xs[i]? = none := List.getElem?_eq_none (by omega)
      have hdr : xs.drop i = [] := List.drop_eq_nil_of_le (by omega)
      rw [hdr] at hrun
      unfold lcRun at hrun
      cases hrun
      rw [List.append_nil] at hys
      subst hys
      refine .inl ⟨(wk i H' (Same.keep sm)).2 hn, ?_⟩
      refine q D H' (s1.trans sm) (Same.free s1 hD) (.lst hHD (rs.mono (fun a ha => ⟨sub false a ha, fun z => ?_⟩) keepRefl))
      subst z
      exact ha.2.elim (fun z => Bool.noConfusion z) fun w => w n hOn
  · cases e
theorem sn_lc {elt tg iter : Expr} {scope : Scope} {own : List (Str × Nat)} {pos : Pos} {di : Ax} {g : Tg} {te : Ex} (hc : X.calm = true) (hN : X.N.Nodup) (hi : SI X tg iter di) (ok : BlkOk X.N X.env.scope scope own)
    (hg : ∀ (s : Shared) (H : Hp) (C : Addr) (cl : List (Str × Addr)) (fp : List Addr), PT1 (X.blk s H scope (compEnvC scope cl C X.env) fp) tg g)
    (he : ∀ (s : Shared) (H : Hp) (C : Addr) (cl : List (Str × Addr)) (fp : List Addr), SE (X.blk s H scope (compEnvC scope cl C X.env) fp) false elt te) (hw : ∀ i ∈ g.slots, i ∈ own.map (·.2) := by decide) (hs : ∀ x, foldedSetIterable iter X.env x = pure x := by intro _; rfl) {ws : List Nat} (hws : own.map (·.2) = ws := by rfl) :
    SN X (.ListComp elt [⟨tg, iter, [], 0⟩] scope pos) (lcE di g yes te ws) := by
  subst hws
  exact (pe_lc (te := tE X.K X.mg false te) hc hN hi ok (g := tgR X.K g) hg (fun _ _ _ _ _ => pts_nil) he hs).weak fun σ H Q h => lc_of hw (fun B O σ env b H Q _ e q => by cases e; exact q H (Same.refl H)) h
theorem sn_lcI {elt tg iter t : Expr} {scope : Scope} {own : List (Str × Nat)} {pos : Pos} {di : Ax} {g : Tg} {te : Ex} {dt : Tx} (hc : X.calm = true) (hN : X.N.Nodup) (hi : SI X tg iter di) (ok : BlkOk X.N X.env.scope scope own)
    (hg : ∀ (s : Shared) (H : Hp) (C : Addr) (cl : List (Str × Addr)) (fp : List Addr), PT1 (X.blk s H scope (compEnvC scope cl C X.env) fp) tg g)
    (ht : ∀ (s : Shared) (H : Hp) (C : Addr) (cl : List (Str × Addr)) (fp : List Addr), ST (X.blk s H scope (compEnvC scope cl C X.env) fp) t dt)
    (he : ∀ (s : Shared) (H : Hp) (C : Addr) (cl : List (Str × Addr)) (fp : List Addr), SE (X.blk s H scope (compEnvC scope cl C X.env) fp) false elt te) (hw : ∀ i ∈ g.slots, i ∈ own.map (·.2) := by decide) (hs : ∀ x, foldedSetIterable iter X.env x = pure x := by intro _; rfl) {ws : List Nat} (hws : own.map (·.2) = ws := by rfl) :
    SN X (.ListComp elt [⟨tg, iter, [t], 0⟩] scope pos) (lcE di g dt te ws) := by
  subst hws
  exact (pe_lc (te := tE X.K X.mg false te) (tt := tT X.K X.mg dt) hc hN hi ok (g := tgR X.K g) hg (fun s H C cl fp => pts_one (ht s H C cl fp)) he hs).weak fun σ H Q h => lc_of hw (fun B O σ env b H Q r e q => ⟨B, O, env, b, r, e, q⟩) h
theorem set_of {K : PySem.W.Frag} {mg : Str → Option Value} {D : Ends} {σ : L2.St} {H : Hp} {i : Nat} {de : Ex} (h : tS K mg (setE i de) D σ H) : tN K mg de σ H (fun x H1 => gName i x σ H1 D.nx) := by
  obtain ⟨B, O, env, r, rl, h1, q⟩ := h
  obtain ⟨d, hd, h2⟩ := bnd h1
  cases h2
  exact ⟨B, O, env, d, rl, hd, fun p H1 s hp o => q _ H1 _ (ERel.set (rl.heap s) (o.rep (fun _ z => z.1) (rl.fr p hp))) ((Fm.of_same s).trans (Fm.of_same (Same.refl H1)).off)⟩
section
variable {elt tg iter t : Expr} {scope : Scope} {own : List (Str × Nat)} {pos spos py : Pos} {di : Ax} {g : Tg} {te : Ex} {dt : Tx} {i : Nat} {y : Str}
theorem s_setLc (hc : X.calm = true) (hN : X.N.Nodup) (hsw : swapsWith (.ListComp elt [⟨tg, iter, [], 0⟩] scope pos) (some (.Name y py)) spos.line X.env = pure true) (hi : SI X tg iter di) (ok : BlkOk X.N X.env.scope scope own)
    (hg : ∀ (s : Shared) (H : Hp) (C : Addr) (cl : List (Str × Addr)) (fp : List Addr), PT1 (X.blk s H scope (compEnvC scope cl C X.env) fp) tg g)
    (he : ∀ (s : Shared) (H : Hp) (C : Addr) (cl : List (Str × Addr)) (fp : List Addr), SE (X.blk s H scope (compEnvC scope cl C X.env) fp) false elt te) (hy : X.N[i]? = some y := by rfl) (hyl : X.env.scope.names.lookup y = some .local := by rfl) (hw : ∀ i ∈ g.slots, i ∈ own.map (·.2) := by decide) (hs : ∀ x, foldedSetIterable iter X.env x = pure x := by intro _; rfl) {ws : List Nat} (hws : own.map (·.2) = ws := by rfl) :
    SS X (.Assign [.Name y py] (.ListComp elt [⟨tg, iter, [], 0⟩] scope pos) spos) (setE i (lcE di g yes te ws)) := by
  subst hws
  exact (ps_setLc (te := tE X.K X.mg false te) hc hN hy hyl hsw hi ok (g := tgR X.K g) hg (fun _ _ _ _ _ => pts_nil) he hs).weak fun D σ H h => lc_of hw (fun B O σ env b H Q _ e q => by cases e; exact q H (Same.refl H)) (set_of h)
end
theorem s_app {i : Nat} {x : Str} {e : Expr} {de : Ex} {px apos cpos pos : Pos} (he : SE X false e de) (hN : X.N[i]? = some x := by rfl) (hv : Vis X.env.scope x := by first | exact Or.inl rfl | exact Or.inr (Or.inl rfl) | exact Or.inr (Or.inr rfl)) (hd : (x == ("__debug__" : Str)) = false := by decide)
    (hcd : (x == ("__classdict__" : Str)) = false := by decide) (hbase : attributeBase (.Name x px) "append" X.env (eval (.Name x px) X.env) = eval (.Name x px) X.env := by rfl)
    (hfew : ((backTo cpos (starEach (e :: []) X.env)).all (fun x => !x.1) && (backToKw cpos (keywordEach [] X.env)).all (fun x => x.1.isSome)
      && decide ((e :: []).length + ([] : List Keyword).length + (if ([] : List Keyword).isEmpty then 0 else 1) < 30)) = true := by rfl)
    (hline : (apos.endLine == cpos.line) = true := by rfl) (hs : starEach (e :: []) X.env = (false, eval e X.env) :: starEach [] X.env := by rfl) (hplain : (backTo cpos (starEach [] X.env)).any (·.1) = false := by rfl)
    (hsw : swapsWith (.Call (.Attribute (.Name x px) "append" apos) [e] [] cpos) none pos.line X.env = pure false := by rfl) :
    SS X (.Expr (.Call (.Attribute (.Name x px) "append" apos) [e] [] cpos) pos) (app i de) :=
  (ps_expr (pe_bm PySem.F.plainAttrs_list PySem.F.slot_list_append PySem.F.type_list_append mt_append (pe_var hN hv hd hcd) (pa_cons he pa_nil hs) hbase hfew hline hs hplain) hsw).weak fun D σ H ⟨B, O, env, r, rl, h1, q⟩ => by
  obtain ⟨d, hd, h2⟩ := bnd h1
  split at h2
  · rename_i xs hi
    split at h2
    · rename_i hz
      cases h2
      obtain ⟨p, g1, g2, g3, g4⟩ := rl.owns i _ hi
      cases g4 with
      | lst hH rs =>
        refine ⟨_, g2, .inl ⟨rfl, _, .inl (.inl hH)⟩, B, O, env, d, rl, hd, fun v H1 s1 r1 => ?_⟩
        have rl1 := rl.heap s1
        have hH1 := s1 _ _ hH
        refine ⟨p, _, v, rfl, rfl, hH1, by rw [rs.len]; exact Nat.lt_of_lt_of_le hz (szL_ok (Nat.le_refl _)), ?_⟩
        have z := ERel.write (i := i) (p := p) (d' := .lst (xs ++ [d])) rl1 g1 g2 (.lst upd_same (((rs.same s1).append (.cons r1 .nil)).mono (fun _ z => z) (keep_write rl1 g1))) trivial
        exact q σ _ O z.1 ((Fm.of_same s1).trans z.2)
    · cases h2
  · cases h2
end
end PV

namespace PV
variable [LT] [RT]
open PySem PySem.Spec PyProof.Rows L2
def negD : D → Option D
  | .int i => some (.int (-i))
  | _ => none
def tupD : D → Option D
  | .lst xs => some (.tup xs)
  | .tup xs => some (.tup xs)
  | _ => none
def listD : D → Option D
  | .lst xs => some (.lst xs)
  | .tup xs => some (.lst xs)
  | _ => none
def isBD : D → D → Option Bool
  | .bl a, .bl b => some (a == b)
  | _, _ => none
def stuck : Sx := fun _ => none
def drpA (a b : Ex) : Sx := fun e => (a e).bind fun d => (b e).bind fun _ => match d with
  | .lst xs => if xs.length < szL then some (.nx e) else none
  | _ => none
def inC (n : Bool) (ds : List D) (a : Ex) : Tx := fun e => (a e).bind fun d => match d with
  | .int i => some (n != ds.any fun z => D.eqv z (.int i))
  | _ => none
def look (t : List (Int × Int)) (i : Int) : Option Int := match t with
  | [] => none
  | (a, b) :: r => if a = i then some b else look r i
def tabI (t : List (Int × Int)) : D → Option D
  | .int i => (look t i).map D.int
  | _ => none
def sumT : D → Option D
  | .lst xs => (intsOf xs).map fun ns => .int ns.sum
  | .tup xs => (intsOf xs).map fun ns => .int ns.sum
  | _ => none
section
variable {X : Cx} {τ : Bool}
theorem SE.flat {e : Expr} {de : Ex} (h : SE X true e de) (hi : ∀ env d, de env = some d → d.imm = true) : SE X τ e de := h.weak fun σ H Q ⟨B, O, env, d, r, h1, q⟩ => ⟨B, O, env, d, r, h1, fun v H' s rv => q v H' s (rv.immut (hi env d h1))⟩
theorem imm_cal {f : D → Option D} {da : Ax} {env : DEnv} {d : D} (hf : ∀ x y, f x = some y → y.imm = true) (h : cal (f1 f) da env = some d) : d.imm = true := by
  obtain ⟨ds, _, h2⟩ := bnd h
  obtain ⟨x, _, h3⟩ := f1_one h2
  exact hf x d h3
theorem imm_lenD (x y : D) (h : lenD x = some y) : y.imm = true := by
  cases x <;> simp only [lenD, reduceCtorEq] at h
  · split at h <;> cases h
    rfl
  all_goals (cases h; rfl)
theorem imm_intD (x y : D) (h : intD x = some y) : y.imm = true := by
  cases x <;> simp only [intD, reduceCtorEq] at h <;> (cases h; rfl)
theorem imm_sumL (x y : D) (h : sumL x = some y) : y.imm = true := by
  cases x <;> simp only [sumL, reduceCtorEq] at h
  obtain ⟨ns, _, h2⟩ := Option.map_eq_some_iff.mp h
  cases h2; rfl
theorem imm_sumT (x y : D) (h : sumT x = some y) : y.imm = true := by
  cases x <;> simp only [sumT, reduceCtorEq] at h <;>
  · obtain ⟨ns, _, h2⟩ := Option.map_eq_some_iff.mp h
    cases h2; rfl
theorem imm_allL (x y : D) (h : allL x = some y) : y.imm = true := by
  cases x <;> simp only [allL, reduceCtorEq] at h
  obtain ⟨ns, _, h2⟩ := Option.map_eq_some_iff.mp h
  cases h2; rfl
theorem se_bltI {f : D → Option D} {id : String} {x : Str} {e : Expr} {es : List Expr} {da : Ax} {p pos : Pos} (hf : ∀ x y, f x = some y → y.imm = true) (hc : CallR X (.builtin id) (rC X.mg (f1 f))) (hm : X.mg x = none) (hv : bootBuiltins x = some (.builtin id)) (ha : SA X true (e :: es) da) (hg : Gl X x := by rfl) (hn : x ≠ "__name__" := by decide) (hdb : (x == ("__debug__" : Str)) = false := by decide)
    (he : starEach (e :: es) X.env = (false, eval e X.env) :: starEach es X.env := by rfl) (hpl : (backTo pos (starEach es X.env)).any (·.1) = false := by rfl) : SE X τ (.Call (.Name x p) (e :: es) [] pos) (cal (f1 f) da) := (se_blt hc hm hv ha hg hn hdb he hpl).flat fun _ _ h => imm_cal hf h
theorem se_btyI {f : D → Option D} {T : String} {x : Str} {e : Expr} {es : List Expr} {da : Ax} {p pos : Pos} (hf : ∀ x y, f x = some y → y.imm = true) (hc : CallR X (.type T) (rC X.mg (f1 f))) (hm : X.mg x = none) (hv : bootBuiltins x = some (.type T)) (ha : SA X true (e :: es) da) (hg : Gl X x := by rfl) (hn : x ≠ "__name__" := by decide) (hdb : (x == ("__debug__" : Str)) = false := by decide)
    (he : starEach (e :: es) X.env = (false, eval e X.env) :: starEach es X.env := by rfl) (hpl : (backTo pos (starEach es X.env)).any (·.1) = false := by rfl) : SE X τ (.Call (.Name x p) (e :: es) [] pos) (cal (f1 f) da) := (se_bty hc hm hv ha hg hn hdb he hpl).flat fun _ _ h => imm_cal hf h
theorem tupleOnce (l : Addr) (xs : Array Value) (n : Nat) (dd : Option Addr) (sl : Array (Option Value)) (u : Tok) : Meets (Builtin.«tuple.__mul__» ⟨[.ref l, .int 1 u], []⟩) (fun _ R s => s.heap.get? l = some { cls := .type "tuple", dict := dd, data := .seq xs n, slots := sl } ∧ R (.ok (.ret (.ref l))) s) :=
  .of_wp fun P w A R s h => by
    obtain ⟨hp, g, d, tk, os⟩ := s
    obtain ⟨hl, h⟩ := h
    have idx := AutoSeq1.idx_int
    have one : (xs.isEmpty || (1 : Int) == 1) = true := by simp
    wp_walk using wpAny_loadPart' hl
    repeat (first
      | (refine wpAny_ite_true (by simp) ?_; wp_walk using wpAny_loadPart' hl)
      | (refine wpAny_ite_false (by decide) ?_; wp_walk using wpAny_loadPart' hl))
    exact ⟨_, rfl, h⟩
theorem op_once : OpR X (binaryOp .Mult) (fun x y H Q => ∃ l xs, x = .ref l ∧ y = .int 1 ∧ SqT X.K H l xs ∧ Q (.ref l) H) := by
  intro pins s σ H x y v u Q I rx ry ⟨l, xs, ex, ey, hT, q⟩
  subst ex ey
  cases rx
  obtain ⟨t, rfl⟩ := ry
  obtain ⟨its, r, ⟨⟨c, dd, data, sl⟩, ho, hc, n, hd⟩, hs⟩ := I.tuple hT
  dsimp only at hc hd
  subst hc hd
  exact wpAny_binaryOp_repeat_ref (T := "tuple") (U := "int") (by decide) ⟨_, ho, rfl⟩ (fun s' => typeIs_int s' 1 t) noFill_tuple_mul F.fills_int_mul F.slot_int_rmul repeat_tuple F.slot_int_index.lookup
    (call_meets F.slot_int_rmul (typeIs_int s 1 t) F.entry_int_rmul (F.args_int_rmul_2 _ _) (int_rmul_tuple 1 t l its.toArray n dd sl)
      ⟨ho, rfl, ⟨_, ho, rfl⟩, call_meets F.slot_tuple_mul ⟨_, ho, rfl⟩ F.entry_tuple_mul (F.args_tuple_mul_2 _ _) (tupleOnce l its.toArray n dd sl t) ⟨ho, .ref l, H, I, rfl, q⟩⟩)
theorem op_mulD : OpR X (binaryOp .Mult) (rD X.mg mulD) := by
  intro pins s σ H x y v u Q I rx ry ⟨A, dx, dy, d, fr, r1, r2, e, q⟩
  cases r1 <;> cases r2 <;> simp only [mulD, reduceCtorEq] at e
  · rename_i i j
    split at e
    · rename_i h
      simp only [Bool.or_eq_true] at h
      cases e
      have h' : CMul i j := h.imp b64_ok b64_ok
      exact op_mul pins s σ H _ _ v u Q I rx ry ⟨_, _, rfl, rfl, h', q _ H (Same.refl H) (.int _)⟩
    · cases e
  · rename_i a xs ds hh t k
    split at e
    · rename_i h
      simp only [Bool.and_eq_true, decide_eq_true_eq, Bool.not_eq_true'] at h
      obtain ⟨⟨⟨h1, h2⟩, h3⟩, h4⟩ := h
      cases e
      have hne : xs ≠ [] := fun z => by
        subst z
        have := t.len
        cases ds
        · cases h1
        · simp at this
      by_cases hk : k = 1
      · subst hk
        have e1 : (List.replicate (Int.toNat 1) ds).flatten = ds := by simp
        rw [e1] at q
        exact op_once pins s σ H _ _ v u Q I rx ry ⟨a, xs, rfl, rfl, .inl (.inl hh), q _ H (Same.refl H) (.tup hh t)⟩
      have h2 : 2 ≤ k := by omega
      refine op_repT pins s σ H _ _ v u Q I rx ry ⟨a, k, xs, rfl, rfl, .inl (.inl hh), hne, h2, h3, by rw [t.len]; exact h4, fun p hp => q _ _ (same_upd hp) (.tup upd_same ?_)⟩
      exact (Reps.rep k.toNat t).same (same_upd hp)
    · cases e
theorem se_neg {e : Expr} {de : Ex} {pos : Pos} (h : SE X true e de) : SE X τ (.UnaryOp .USub e pos) (op1 negD de) := (pe_un un_neg h).weak fun σ H Q ⟨B, O, env, d, r, h1, q⟩ => by
  obtain ⟨x, hx, h2⟩ := bnd h1
  refine ⟨B, O, env, x, r, hx, fun v H1 s1 r1 => ?_⟩
  cases x <;> simp only [negD, reduceCtorEq] at h2
  cases h2
  cases r1
  exact ⟨_, rfl, q _ H1 s1 (.int _)⟩
theorem se_tuple {e : Expr} {de : Ex} {p pos : Pos} (hm : X.mg "tuple" = none) (h : SE X τ e de) (hg : Gl X "tuple" := by rfl) (na : starEach [e] X.env = (false, eval e X.env) :: starEach [] X.env := by rfl) : SE X τ (.Call (.Name "tuple" p) [e] [] pos) (op1 tupD de) := (pe_tupleOf hg hm h na).weak fun σ H Q ⟨B, O, env, d, r, h1, q⟩ => by
  obtain ⟨x, hx, h2⟩ := bnd h1
  refine ⟨B, O, env, x, r, hx, fun v H1 s1 r1 => ?_⟩
  cases r1 <;> simp only [tupD, reduceCtorEq] at h2
  · rename_i a xs ds h t
    cases h2
    exact .inr ⟨a, xs, rfl, .inl (.inl h), q _ H1 s1 (.tup h t)⟩
  · rename_i a xs ds ha h t
    cases h2
    exact .inl ⟨a, xs, rfl, .inl (.inl h), fun p hp => q _ _ (s1.trans (same_upd hp)) (.tup upd_same (t.same (same_upd hp)))⟩
theorem sn_list {e : Expr} {de : Ex} {p pos : Pos} (hm : X.mg "list" = none) (h : SE X false e de) (hg : Gl X "list" := by rfl) (he : starEach [e] X.env = (false, eval e X.env) :: starEach [] X.env := by rfl) (hpl : (backTo pos (starEach [] X.env)).any (·.1) = false := by rfl) : SN X (.Call (.Name "list" p) [e] [] pos) (op1 listD de) := (pe_callTy call_list_of hg hm boot_list (sa_cons h sa_nil he) (by decide) (by decide) he hpl).weak fun σ H Q ⟨B, O, env, d, r, h1, q⟩ => by
  obtain ⟨x, hx, h2⟩ := bnd h1
  refine ⟨B, O, env, [x], r, by show (de env).bind _ = _; rw [hx]; rfl, fun vs H1 s1 r1 => ?_⟩
  obtain ⟨v, rfl, rx⟩ := reps_one r1
  cases rx <;> simp only [listD, reduceCtorEq] at h2
  · rename_i a xs ds h t
    cases h2
    exact ⟨a, xs, rfl, .inr (.inl (.inl h)), fun p hp => q p _ (s1.trans (same_upd hp)) (Same.free s1 hp) (.lst upd_same ((Reps.ne hp t).same (same_upd hp)))⟩
  · rename_i a xs ds ha h t
    cases h2
    exact ⟨a, xs, rfl, .inl (.inl (.inl h)), fun p hp => q p _ (s1.trans (same_upd hp)) (Same.free s1 hp) (.lst upd_same ((Reps.ne hp t).same (same_upd hp)))⟩
theorem s_stuck {e : Stmt} : SS X e stuck := ⟨fun pins s σ H D I ⟨B, O, env, r, rl, h1, q⟩ => nomatch h1⟩
theorem at_nil {K : PySem.W.Frag} {mg : Str → Option Value} {f : Str} : ∀ c ∈ ([] : List Str), AtOk K mg c f := fun c h => nomatch h
theorem at_cons {K : PySem.W.Frag} {mg : Str → Option Value} {f c : Str} {cs : List Str} (h : AtOk K mg c f) (t : ∀ c ∈ cs, AtOk K mg c f) : ∀ d ∈ c :: cs, AtOk K mg d f := fun d hd => by
  rcases List.mem_cons.mp hd with z | z
  · rw [z]; exact h
  · exact t d z
end
end PV

namespace PV
variable [LT] [RT]
open PySem PySem.Spec PyProof.Rows L2
theorem eqv_kD (a b : Key) : D.eqv (kD a) (kD b) = decide (a = b) := by
  cases a <;> cases b <;> simp [kD, D.eqv, Bool.beq_eq_decide_eq]
theorem eqv_kDs : ∀ (a b : List Key), D.eqvs (a.map kD) (b.map kD) = decide (a = b)
  | [], [] => rfl
  | [], _ :: _ => rfl
  | _ :: _, [] => rfl
  | x :: xs, y :: ys => by
    simp only [List.map_cons, D.eqvs, eqv_kD, eqv_kDs xs ys]
    by_cases h : x = y <;> by_cases h2 : xs = ys <;> simp [h, h2]
theorem eqv_kT (a b : List Key) : D.eqv (.tup (a.map kD)) (.tup (b.map kD)) = decide (a = b) := by
  simp only [D.eqv]; exact eqv_kDs a b
section
variable {mg : Str → Option Value} {A : Addr → Prop} {H : Hp} {v : V} {x : D}
theorem key1_rep (r : Rep mg A H v x) (h : key1 x = true) : ∃ k, v = kV k ∧ x = kD k := by
  cases r <;> simp only [key1, reduceCtorEq, Bool.false_eq_true] at h
  · exact ⟨.inl _, rfl, rfl⟩
  · exact ⟨.inr _, rfl, rfl⟩
theorem keys_rep : ∀ {vs : List V} {xs : List D}, Reps mg A H vs xs → xs.all key1 = true → ∃ ks : List Key, vs = ks.map kV ∧ xs = ks.map kD
  | _, _, .nil, _ => ⟨[], rfl, rfl⟩
  | _, _, .cons h t, e => by
    rw [List.all_cons, Bool.and_eq_true] at e
    obtain ⟨k, rfl, rfl⟩ := key1_rep h e.1
    obtain ⟨ks, rfl, rfl⟩ := keys_rep t e.2
    exact ⟨k :: ks, rfl, rfl⟩
theorem keyT_rep (r : Rep mg A H v x) (h : keyD true x = true) : ∃ (ks : List Key) (b : Addr), v = .ref b ∧ H b = some (.tup (ks.map kV)) ∧ x = .tup (ks.map kD) := by
  cases r <;> simp only [keyD, reduceCtorEq, Bool.false_eq_true] at h
  rename_i a xs ds hh t
  obtain ⟨ks, rfl, rfl⟩ := keys_rep t h
  exact ⟨ks, a, rfl, hh, rfl⟩
theorem dget_some {κ : Type} [DecidableEq κ] {f : κ → D} (hf : ∀ a b, D.eqv (f a) (f b) = decide (a = b)) {k : κ} {d : D} : ∀ {kvs : List (κ × V)} {ds : List D}, Reps mg A H (kvs.map (·.2)) ds → dget (kvs.map fun p => f p.1) ds (f k) = some d → ∃ v, L2.valV kvs k = some v ∧ Rep mg A H v d
  | [], _, .nil, e => by simp [dget] at e
  | p :: kvs, _, .cons h t, e => by
    simp only [List.map_cons, dget, hf] at e
    by_cases hk : p.1 = k
    · rw [if_pos (decide_eq_true hk)] at e
      cases e
      exact ⟨p.2, valV_pos hk, h⟩
    · rw [if_neg (by simpa using hk)] at e
      obtain ⟨v, h1, h2⟩ := dget_some hf t e
      exact ⟨v, by rw [valV_neg hk]; exact h1, h2⟩
theorem dget_none {κ : Type} [DecidableEq κ] {f : κ → D} (hf : ∀ a b, D.eqv (f a) (f b) = decide (a = b)) {k : κ} : ∀ {kvs : List (κ × V)} {ds : List D}, Reps mg A H (kvs.map (·.2)) ds → dget (kvs.map fun p => f p.1) ds (f k) = none → L2.valV kvs k = none
  | [], _, .nil, e => rfl
  | p :: kvs, _, .cons h t, e => by
    simp only [List.map_cons, dget, hf] at e
    by_cases hk : p.1 = k
    · rw [if_pos (decide_eq_true hk)] at e
      cases e
    · rw [if_neg (by simpa using hk)] at e
      rw [valV_neg hk]
      exact dget_none hf t e
theorem dupd_map {κ : Type} [DecidableEq κ] {f : κ → D} (hf : ∀ a b, D.eqv (f a) (f b) = decide (a = b)) {k : κ} {w : V} {d : D} (hw : Rep mg A H w d) : ∀ {kvs : List (κ × V)} {ds : List D}, Reps mg A H (kvs.map (·.2)) ds → Reps mg A H ((kvs.map fun kv => if kv.1 = k then (kv.1, w) else kv).map (·.2)) (dupd (kvs.map fun p => f p.1) ds (f k) d)
  | [], _, .nil => .nil
  | p :: kvs, _, .cons h t => by
    simp only [List.map_cons, dupd, hf]
    by_cases hk : p.1 = k
    · rw [if_pos hk, if_pos (decide_eq_true hk)]
      exact .cons hw (dupd_map hf hw t)
    · rw [if_neg hk, if_neg (by simpa using hk)]
      exact .cons h (dupd_map hf hw t)
theorem dput_put {κ : Type} [DecidableEq κ] {f : κ → D} (hf : ∀ a b, D.eqv (f a) (f b) = decide (a = b)) {k : κ} {w : V} {d : D} (hw : Rep mg A H w d) {kvs : List (κ × V)} {ds : List D} (r : Reps mg A H (kvs.map (·.2)) ds) :
    (L2.putK kvs k w).map (fun p => f p.1) = (dput (kvs.map fun p => f p.1) ds (f k) d).1 ∧ Reps mg A H ((L2.putK kvs k w).map (·.2)) (dput (kvs.map fun p => f p.1) ds (f k) d).2 := by
  unfold L2.putK dput
  rw [valV_any]
  cases hd : dget (kvs.map fun p => f p.1) ds (f k) with
  | none =>
    rw [dget_none hf r hd]
    simp only [Option.isSome_none, Bool.false_eq_true, ↓reduceIte, List.map_append, List.map_cons, List.map_nil, true_and]
    exact r.append (.cons hw .nil)
  | some d' =>
    obtain ⟨v, h1, h2⟩ := dget_some hf r hd
    rw [h1]
    simp only [Option.isSome_some, ↓reduceIte]
    refine ⟨?_, dupd_map hf hw r⟩
    rw [List.map_map]
    apply List.map_congr_left
    intro p _
    simp only [Function.comp]
    split <;> rfl
theorem rep_dget {a : V} {t : Bool} {ks vs : List D} (r : Rep mg A H a (.dic t ks vs)) (rx : Rep mg A H v x) (hk : keyD t x = true) : ∃ p o, a = .ref p ∧ IsD H p ∧ DGet H p v o ∧ match dget ks vs x with
    | some d => ∃ w, o = some w ∧ Rep mg A H w d
    | none => o = none := by
  cases r
  · rename_i a kvs ha h rr
    obtain ⟨k, rfl, rfl⟩ := key1_rep rx hk
    refine ⟨a, L2.valV kvs k, rfl, .inl ⟨_, h⟩, .inl ⟨kvs, k, h, rfl, rfl⟩, ?_⟩
    split
    · rename_i d e
      exact dget_some eqv_kD rr e
    · rename_i e
      exact dget_none eqv_kD rr e
  · rename_i a kvs ha h rr
    obtain ⟨k, b, rfl, hb, rfl⟩ := keyT_rep rx hk
    refine ⟨a, L2.valV kvs k, rfl, .inr ⟨_, h⟩, .inr ⟨kvs, k, b, h, rfl, hb, rfl⟩, ?_⟩
    split
    · rename_i d e
      exact dget_some eqv_kT rr e
    · rename_i e
      exact dget_none eqv_kT rr e
end
section
variable {X : Cx} {τ : Bool}
theorem rep_isD {mg : Str → Option Value} {A : Addr → Prop} {H : Hp} {a : V} {t : Bool} {ks vs : List D} (r : Rep mg A H a (.dic t ks vs)) : ∃ p, a = .ref p ∧ IsD H p := by
  cases r
  · exact ⟨_, rfl, .inl ⟨_, by assumption⟩⟩
  · exact ⟨_, rfl, .inr ⟨_, by assumption⟩⟩
theorem se_getK {o i : Expr} {do_ di : Ex} {pos : Pos} (hu : X.A.units + 1 < cLine) (ho : SE X τ o do_) (hi : SE X τ i di) (hs : NoSl i := by intro _ _; rfl) : SE X τ (.Subscript o i pos) (op2 getK do_ di) := (pe_dget hu ho hi hs).weak fun σ H Q ⟨B, O, env, d, r, h1, q⟩ => by
  obtain ⟨x, hx, h1⟩ := bnd h1
  obtain ⟨y, hy, h1⟩ := bnd h1
  refine ⟨B, O, env, x, r, hx, fun v H1 s1 r1 => ⟨B, O, env, y, r.heap s1, hy, fun w H2 s2 r2 => ?_⟩⟩
  cases x <;> simp only [getK, reduceCtorEq] at h1
  split at h1
  · rename_i hk
    obtain ⟨p, o, rfl, _, g, z⟩ := rep_dget (r1.same s2) r2 hk
    rw [h1] at z
    obtain ⟨w', rfl, rw'⟩ := z
    exact ⟨p, w', rfl, g, q w' H2 (s1.trans s2) rw'⟩
  · cases h1
theorem se_getK2 {o i f : Expr} {do_ di df : Ex} {apos pos : Pos} (hu : X.A.units + 1 < cLine) (ho : SE X τ o do_) (hi : SE X τ i di) (hf : SE X τ f df) (m : M2 X o "get" apos i f pos := by exact ⟨rfl, rfl, rfl, rfl⟩) : SE X τ (.Call (.Attribute o "get" apos) [i, f] [] pos) (op3 getK2 do_ di df) := (pe_dget2 hu ho hi hf m).weak fun σ H Q ⟨B, O, env, d, r, h1, q⟩ => by
  obtain ⟨x, hx, h1⟩ := bnd h1
  obtain ⟨y, hy, h1⟩ := bnd h1
  obtain ⟨z, hz, h1⟩ := bnd h1
  refine ⟨B, O, env, x, r, hx, fun v H1 s1 r1 => ?_⟩
  cases x <;> simp only [getK2, reduceCtorEq] at h1
  obtain ⟨p, rfl, isd⟩ := rep_isD r1
  refine ⟨p, rfl, isd, B, O, env, y, r.heap s1, hy, fun w H2 s2 r2 => ⟨B, O, env, z, (r.heap s1).heap s2, hz, fun u H3 s3 r3 => ?_⟩⟩
  split at h1
  · rename_i hk
    cases h1
    obtain ⟨p', o, e, _, g, zz⟩ := rep_dget (r1.same (s2.trans s3)) (r2.same s3) hk
    cases e
    refine ⟨o, g, ?_⟩
    split at zz
    · rename_i d' e'
      obtain ⟨w', rfl, rw'⟩ := zz
      exact q w' H3 (s1.trans (s2.trans s3)) (by rw [e']; exact rw')
    · rename_i e'
      subst zz
      exact q u H3 (s1.trans (s2.trans s3)) (by rw [e']; exact r3)
  · cases h1
theorem sn_dnewT {pos : Pos} : SN X (.Dict [] [] pos) (cst (.dic true [] [])) := pe_dnewT.weak fun σ H Q ⟨B, O, env, d, r, h1, q⟩ => by
  cases h1
  exact fun p hp => q p _ (same_upd hp) hp (.dicT (kvs := []) upd_same .nil)
theorem s_stK {i : Nat} {x : Str} {e k : Expr} {de dk : Ex} {px pos pos' : Pos} (hu : X.A.units + 1 < cLine) (hk : SE X false k dk) (he : SE X false e de) (hN : X.N[i]? = some x := by rfl) (hv : Vis X.env.scope x := by first | exact Or.inl rfl | exact Or.inr (Or.inl rfl) | exact Or.inr (Or.inr rfl)) (hd : (x == ("__debug__" : Str)) = false := by decide)
    (hcd : (x == ("__classdict__" : Str)) = false := by decide) (hs : swapsWith e (some (.Subscript (.Name x px) k pos')) pos.line X.env = pure false := by rfl) :
    SS X (.Assign [.Subscript (.Name x px) k pos'] e pos) (stK i dk de) := (ps_dput hu (pe_var hN hv hd hcd) hk he hs).weak fun D σ H ⟨B, O, env, r, rl, h1, q⟩ => by
  obtain ⟨d, hd, h1⟩ := bnd h1
  obtain ⟨kd, hkd, h1⟩ := bnd h1
  split at h1
  · rename_i t ks vs hi
    split at h1
    · rename_i hh
      obtain ⟨hh1, hh2, hh3⟩ := hh
      cases h1
      refine ⟨B, O, env, d, rl, hd, fun v H1 s1 r1 => ?_⟩
      obtain ⟨p, g1, g2, g3, g4⟩ := (rl.heap s1).owns i _ hi
      refine ⟨_, g2, B, O, env, kd, rl.heap s1, hkd, fun y H2 s2 r2 => ?_⟩
      have rl2 := (rl.heap s1).heap s2
      have r1' := r1.same s2
      obtain ⟨p', g1', g2', g3', g4'⟩ := rl2.owns i _ hi
      rw [g1] at g1'; cases g1'
      have szl := szL_ok (Nat.le_refl szL)
      cases g4'
      · rename_i kvs hH _ rs
        obtain ⟨k', rfl, rfl⟩ := key1_rep r2 hh1
        obtain ⟨z1, z2⟩ := dput_put eqv_kD (k := k') r1' rs
        refine ⟨p, _, rfl, .inl ⟨kvs, k', hH, rfl, ?_, rfl⟩, ?_⟩
        · have : kvs.length < szL := by simpa using hh2
          omega
        · have z := ERel.write (i := i) (p := p) (o' := .dK (L2.putK kvs k' v)) (d' := .dic false (dput (kvs.map fun p => kD p.1) vs (kD k') d).1 (dput (kvs.map fun p => kD p.1) vs (kD k') d).2) rl2 g1 g2' (by rw [← z1]; exact .dicK upd_same (z2.mono (fun _ z => z) (keep_write rl2 g1))) trivial
          exact q σ _ O z.1 ((Fm.of_same (s1.trans s2)).trans z.2)
      · rename_i kvs hH _ rs
        obtain ⟨k', b, rfl, hb, rfl⟩ := keyT_rep r2 hh1
        obtain ⟨z1, z2⟩ := dput_put eqv_kT (k := k') r1' rs
        refine ⟨p, _, rfl, .inr ⟨kvs, k', b, hH, rfl, hb, ?_, rfl⟩, ?_⟩
        · have : kvs.length < szL := by simpa using hh2
          omega
        · have z := ERel.write (i := i) (p := p) (o' := .dT (L2.putK kvs k' v)) (d' := .dic true (dput (kvs.map fun p => .tup (p.1.map kD)) vs (.tup (k'.map kD)) d).1 (dput (kvs.map fun p => .tup (p.1.map kD)) vs (.tup (k'.map kD)) d).2) rl2 g1 g2' (by rw [← z1]; exact .dicT upd_same (z2.mono (fun _ z => z) (keep_write rl2 g1))) trivial
          exact q σ _ O z.1 ((Fm.of_same (s1.trans s2)).trans z.2)
    · cases h1
  · cases h1
theorem ERel.frz {K : PySem.W.Frag} {mg : Str → Option Value} {B : Bs} {H : Hp} {O : Nat → Option Addr} {σ : L2.St} {env : DEnv} {j : Nat} {d : D} (rl : ERel K mg B O σ H env) (e : env[j]? = some (DSlot.own d)) :
    ∃ p, σ[j]? = some (some (.ref p)) ∧ Rep mg (Lv B (offO O j) false) H (.ref p) d ∧ ERel K mg B (offO O j) σ H (env.set j .no) := by
  obtain ⟨p, h2, h3, h4, h5⟩ := rl.owns j d e
  have hl : j < env.length := (List.getElem?_eq_some_iff.mp e).1
  have rv : Rep mg (Lv B (offO O j) false) H (.ref p) d := h5.rep (fun _ z => z.off) ⟨.inr h4, .inr fun k z => (offO_some z).1 (rl.inj k j p (offO_some z).2 h2)⟩
  have up : ∀ a, Lv B O false a → Lv B (offO O j) false a := fun a h => h.off
  refine ⟨p, h3, rv, ⟨by simp [rl.len], rl.same, fun k d' e => ?_, fun k d' e => ?_, fun k d' e => ?_, fun k l p a b => rl.inj k l p (offO_some a).2 (offO_some b).2, fun k p a => rl.trk k p (offO_some a).2, fun k p a => rl.fr0 k p (offO_some a).2, bd_off rl.bd, fun k p a hk => ?_⟩⟩
  · rcases get_set e with ⟨rfl, e2, hl⟩ | ⟨hj, e2⟩
    · cases e2
    · obtain ⟨w, h1, h2⟩ := rl.vals k d' e2
      exact ⟨w, h1, h2.mono up keepRefl⟩
  · rcases get_set e with ⟨rfl, e2, hl⟩ | ⟨hj, e2⟩
    · cases e2
    · obtain ⟨p, h1, h2, h3, h4⟩ := rl.owns k d' e2
      exact ⟨p, by unfold offO; rw [if_neg hj]; exact h1, h2, h3, h4.mono up keepRefl fun _ z => z⟩
  · rcases get_set e with ⟨rfl, e2, hl⟩ | ⟨hj, e2⟩
    · cases e2
    · obtain ⟨h1, h2, h4⟩ := rl.slfs k d' e2
      exact ⟨by unfold offO; rw [if_neg hj]; exact h1, h2, h4.mono up keepRefl fun _ z => z⟩
  · obtain ⟨h1, h2⟩ := offO_some a
    rw [List.getElem?_set_ne (Ne.symm h1)]
    exact rl.nst k p h2 (by simpa using hk)
theorem s_mov {i j : Nat} {x y : Str} {pos px py : Pos} (hN : X.N.Nodup) (hj : X.N[j]? = some y := by rfl) (hv : Vis X.env.scope y := by first | exact Or.inl rfl | exact Or.inr (Or.inl rfl) | exact Or.inr (Or.inr rfl)) (hd : (y == ("__debug__" : Str)) = false := by decide)
    (hcd : (y == ("__classdict__" : Str)) = false := by decide) (hi : X.N[i]? = some x := by rfl) (hx : Loc X.env.scope x := by first | exact Or.inl rfl | exact Or.inr rfl) (hs : swapsWith (.Name y py) (some (.Name x px)) pos.line X.env = pure false := by rfl) (hf : X.fn x = true ∨ X.env.scope.names.lookup x = some .local := by first | exact .inl rfl | exact .inr rfl) :
    SS X (.Assign [.Name x px] (.Name y py) pos) (mov i j) := (ps_set hN hi hx (pe_var hj hv hd hcd) hs hf).weak fun D σ H ⟨B, O, env, r, rl, h1, q⟩ => by
  unfold mov at h1
  split at h1
  · rename_i d e
    cases h1
    obtain ⟨p, h3, rv, rl2⟩ := rl.frz e
    exact ⟨_, h3, q _ H _ (ERel.set rl2 rv) ((Fm.of_same (Same.refl H)).off.trans (Fm.of_same (Same.refl H)).off)⟩
  · cases h1
end
end PV

namespace PV
variable [LT] [RT]
open PySem PySem.Spec PyProof.Rows L2
structure ZF (fa : List He.Fa) (fn : List He.DefD) (ex : List (PySem.W.Frag → Bool)) (K : PySem.W.Frag) (mg : Str → Option Value) : Prop where
  says : He.SaysD fa fn K
  more : (ex.all fun f => f K) = true
  ns : ∃ h, K.In h ∧ h.Ns mainGlobals mg
section
variable {fa : List He.Fa} {fn : List He.DefD} {ex : List (PySem.W.Frag → Bool)} {K : PySem.W.Frag} {mg : Str → Option Value} (Z : ZF fa fn ex K mg)
include Z
theorem ZF.exf (i : Nat) {f : PySem.W.Frag → Bool} (h : ex[i]? = some f := by rfl) : f K = true := List.all_eq_true.mp Z.more f (List.mem_of_getElem? h)
theorem ZF.glo (i : Nat) {x : Str} (h : fa[i]? = some (.glo x) := by rfl) : mg x = some (.ref (He.ga K x)) := let ⟨_, a, b⟩ := Z.ns; He.glo_ok a b (Z.says.fact i h)
theorem ZF.free (i : Nat) {x : Str} (h : fa[i]? = some (.free x) := by rfl) : mg x = none := let ⟨_, a, b⟩ := Z.ns; He.free_ok a b (Z.says.fact i h)
theorem ZF.int (i : Nat) {x : Str} {n : Int} (h : fa[i]? = some (.int x n) := by rfl) : ∃ t, mg x = some (.int n t) := let ⟨_, a, b⟩ := Z.ns; He.int_ok a b (Z.says.fact i h)
theorem ZF.str (i : Nat) {x z : Str} (h : fa[i]? = some (.str x z) := by rfl) : ∃ t, mg x = some (.str z t) := let ⟨_, a, b⟩ := Z.ns; He.str_ok a b (Z.says.fact i h)
theorem ZF.at (i j k : Nat) {c f : Str} (h : fa[i]? = some (.glo c) := by rfl) (h2 : fa[j]? = some (.cls c) := by rfl) (h3 : fa[k]? = some (.noat c f) := by rfl) : AtOk K mg c f := ⟨_, Z.glo i h, He.cls_ok (Z.says.fact j h2), He.noat_ok (Z.says.fact k h3)⟩
end
section
variable {X : Cx} {τ : Bool}
theorem se_gint {x : Str} {n : Int} {pos : Pos} (h : ∃ t, X.mg x = some (.int n t)) (hg : Gl X x := by rfl) (hd : (x == ("__debug__" : Str)) = false := by decide) : SE X τ (.Name x pos) (cst (.int n)) := by
  obtain ⟨t, h⟩ := h
  exact (pe_glob (v := .int n) hg h ⟨t, rfl⟩ hd).weak fun σ H Q ⟨B, O, env, d, r, h1, q⟩ => by cases h1; exact q _ H (Same.refl H) (.int n)
theorem se_gstr {x z : Str} {pos : Pos} (h : ∃ t, X.mg x = some (.str z t)) (hg : Gl X x := by rfl) (hd : (x == ("__debug__" : Str)) = false := by decide) : SE X τ (.Name x pos) (cst (.str z)) := by
  obtain ⟨t, h⟩ := h
  exact (pe_glob (v := .str z) hg h ⟨t, rfl⟩ hd).weak fun σ H Q ⟨B, O, env, d, r, h1, q⟩ => by cases h1; exact q _ H (Same.refl H) (.str z)
def tupIB (x : Str) (ns : List Int) (K : PySem.W.Frag) : Bool := He.tupB K x (ns.map .int)
def entB : List DictEntry → List (Int × Int) → Bool
  | [], [] => true
  | e :: es, (a, b) :: t => (match e.key, e.val with
    | .int k _, .int v _ => decide (k = a) && decide (v = b) && decide (e.hash = hashInt a)
    | _, _ => false) && entB es t
  | _, _ => false
def tabIB (x : Str) (t : List (Int × Int)) (K : PySem.W.Frag) : Bool := match K.lookup (He.ga K x) with
  | some ⟨.type c, none, .dict es _, sl⟩ => decide (c = "dict") && sl.isEmpty && entB es.toList t
  | _ => false
theorem tabIB_ok {K : PySem.W.Frag} {x : Str} {t : List (Int × Int)} (h : tabIB x t K = true) : ∃ (es : Array DictEntry) (n : Nat), K.lookup (He.ga K x) = some ⟨.type "dict", none, .dict es n, #[]⟩ ∧ entB es.toList t = true := by
  unfold tabIB at h
  cases e : K.lookup (He.ga K x) with
  | none => rw [e] at h; cases h
  | some o =>
    obtain ⟨oc, od, dt, sl⟩ := o
    rw [e] at h
    cases oc <;> try (cases h)
    cases od <;> try (cases h)
    cases dt <;> try (cases h)
    rename_i c es n
    simp only [Bool.and_eq_true, decide_eq_true_eq, Array.isEmpty_iff] at h
    obtain ⟨⟨rfl, rfl⟩, h3⟩ := h
    exact ⟨es, n, rfl, h3⟩
theorem ent_shape : ∀ {es : List DictEntry} {t : List (Int × Int)}, entB es t = true → (∀ e ∈ es, ∃ k u, e.key = .int k u ∧ e.hash = hashInt k) ∧ ∀ i b, look t i = some b → ∃ e u, es.find? (fun e => keyIs (.inl i) e.key) = some e ∧ e.val = .int b u
  | [], [], _ => ⟨fun e he => (nomatch he), fun i b h => by cases h⟩
  | [], _ :: _, h => by cases h
  | _ :: _, [], h => by cases h
  | e :: es, (a, b) :: t, h => by
    unfold entB at h
    rw [Bool.and_eq_true] at h
    obtain ⟨h1, h2⟩ := h
    obtain ⟨i1, i2⟩ := ent_shape h2
    split at h1
    · rename_i k u v w e1 e2
      simp only [Bool.and_eq_true, decide_eq_true_eq] at h1
      obtain ⟨⟨rfl, rfl⟩, h3⟩ := h1
      refine ⟨fun e' he => ?_, fun i b' hb => ?_⟩
      · rcases List.mem_cons.mp he with rfl | he
        · exact ⟨k, u, e1, h3⟩
        · exact i1 e' he
      · unfold look at hb
        split at hb
        · rename_i hk
          subst hk
          cases hb
          refine ⟨e, w, ?_, e2⟩
          rw [List.find?_cons, e1]
          simp [keyIs, Value.isInt]
        · rename_i hk
          obtain ⟨e', u', h4, h5⟩ := i2 i b' hb
          refine ⟨e', u', ?_, h5⟩
          rw [List.find?_cons, e1]
          have : keyIs (.inl i) (.int k u) = false := by simp [keyIs, Value.isInt]; omega
          rw [this]
          exact h4
    · cases h1
theorem se_tabI {x : Str} {t : List (Int × Int)} {i : Expr} {di : Ex} {p pos : Pos} (ht : tabIB x t X.K = true) (hm : X.mg x = some (.ref (He.ga X.K x))) (hi : SE X true i di) (hg : Gl X x := by rfl) (hd : (x == ("__debug__" : Str)) = false := by decide) (hs : NoSl i := by intro _ _; rfl) : SE X τ (.Subscript (.Name x p) i pos) (op1 (tabI t) di) := by
  obtain ⟨es, n, lk, hes⟩ := tabIB_ok ht
  obtain ⟨s1, s2⟩ := ent_shape hes
  refine ⟨fun pins s σ H Q I h => ?_⟩
  obtain ⟨B, O, env, d, r, h1, q⟩ := h
  obtain ⟨y, hy, h2⟩ := bnd h1
  refine subD_of PySem.F.slot_dict_getitem.lookup hs (ld_glob I hg hm (thn (hi.run pins s σ H _ I ⟨B, O, env, y, r, hy, fun v H' s1 rv => (⟨s1, rv⟩ : Same H H' ∧ Rep X.mg (Lv B O true) H' v y)⟩) fun iv s2' ⟨v, H2, I2, ry, ss, rv⟩ => ?_) hd)
  obtain ⟨k, rfl⟩ : ∃ k, y = D.int k := by
    cases y <;> simp only [tabI, reduceCtorEq] at h2
    exact ⟨_, rfl⟩
  obtain ⟨b, hb, h3⟩ := Option.map_eq_some_iff.mp h2
  subst h3
  cases rv
  have hget : s2'.heap.get? (He.ga X.K x) = some ⟨.type "dict", none, .dict es n, #[]⟩ := I2.kIn _ _ lk
  refine ⟨⟨_, hget, rfl⟩, ?_⟩
  obtain ⟨e, u, h4, h5⟩ := s2 k b hb
  have hmap : s2'.heap.MapOf (mixKind X.prog X.w) (He.ga X.K x) (fun j => findBy (mixKind X.prog X.w).is es j) := by
    refine ⟨_, es, n, hget, ⟨rfl, rfl, rfl⟩, rfl, fun e he => ?_, fun _ => rfl⟩
    obtain ⟨k', u', e1, e2⟩ := s1 e (by simpa using he)
    refine ⟨.inl k', ?_, ?_⟩
    · rw [e1]; simp [mixKind, keyIs, Value.isInt]
    · rw [e2]; rfl
  obtain ⟨tk, rfl⟩ := ry
  refine wpAny_getItem_of (knd := mixKind X.prog X.w) (k := .inl k) (v := .int b u) (by simp [mixKind, keyIs, Value.isInt]) hmap ?_ ⟨.int b, H2, I2.tok _, ⟨u, rfl⟩, q _ H2 ss (.int b)⟩
  show findBy keyIs es (.inl k) = _
  unfold findBy
  rw [← Array.find?_toList, h4, ← h5]
  rfl
theorem flat_ints {K : PySem.W.Frag} : ∀ ns : List Int, ((ns.map He.Dv.int).map (He.Dv.v K)).all flatV = true
  | [] => rfl
  | _ :: r => by rw [List.map_cons, List.map_cons, List.all_cons, flat_ints r]; rfl
theorem inV_ints {K : PySem.W.Frag} (i : Int) : ∀ ns : List Int, inV (.int i) ((ns.map He.Dv.int).map (He.Dv.v K)) = ((ns.map D.int).any fun z => D.eqv z (.int i))
  | [] => rfl
  | n :: r => by
    have := inV_ints (K := K) i r
    unfold inV at this ⊢
    simp only [List.map_cons, List.any_cons, this]
    rfl
theorem cinC {n : Bool} {ns : List Int} {a : Ex} {K : PySem.W.Frag} {mg : Str → Option Value} {x : Str} (ht : tupIB x ns K = true) {σ : L2.St} {H : Hp} {Q : Bool → Hp → Prop} (h : tT K mg (inC n (ns.map D.int) a) σ H Q) :
    tOp (rIn K n) (tE K mg true a) (tC (.ref (He.ga K x))) σ H fun y H' => ∃ k, y = .bl k ∧ Q k H' := by
  obtain ⟨B, O, env, c, r, h1, q⟩ := h
  obtain ⟨y, hy, h2⟩ := bnd h1
  refine ⟨B, O, env, y, r, hy, fun v H1 s1 r1 => ?_⟩
  cases y <;> simp only [reduceCtorEq] at h2
  cases h2
  cases r1
  refine ⟨_, _, rfl, .inr (He.tupB_ok ht H1), rfl, flat_ints ns, _, rfl, ?_⟩
  rw [inV_ints]
  cases n
  · simpa using q H1 s1
  · simpa using q H1 s1
theorem st_ninC {x : Str} {ns : List Int} {a : Expr} {da : Ex} {p pos : Pos} (ht : tupIB x ns X.K = true) (hm : X.mg x = some (.ref (He.ga X.K x))) (ha : SE X true a da) (hg : Gl X x := by rfl) (hd : (x == ("__debug__" : Str)) = false := by decide) (hmk : behindInMarks .NotIn (.Name x p) = false := by rfl) : ST X (.Compare a [.NotIn] [.Name x p] pos) (inC true (ns.map D.int) da) :=
  (pt_cmpR op_notIn_seq ha (pe_glob (v := .ref (He.ga X.K x)) hg hm rfl hd) hmk).weak fun σ H Q h => cinC ht h
end
end PV

namespace PV
variable [LT] [RT]
open PySem PySem.Spec PyProof.Rows L2
def zipD : List D → Option (List D)
  | [.lst xs, .lst ys] => some ((xs.zip ys).map fun p => .tup [p.1, p.2])
  | [.tup xs, .tup ys] => some ((xs.zip ys).map fun p => .tup [p.1, p.2])
  | _ => none
def iZp (a : Ax) : Ax := fun e => (a e).bind zipD
section
variable {X : Cx} {τ : Bool}
theorem sn_rev {e : Expr} {de : Ex} {k : Nat} {p1 p2 p3 pos : Pos} (h : SE X false e de) : SN X (.Subscript e (.Slice none none (some (.UnaryOp .USub (.Constant (.int 1) k p1) p2)) p3) pos) (op1 revL de) := (pe_revL h).weak fun σ H Q ⟨B, O, env, d, r, h1, q⟩ => by
  obtain ⟨x, hx, h2⟩ := bnd h1
  refine ⟨B, O, env, x, r, hx, fun v H1 s1 r1 => ?_⟩
  cases x <;> simp only [revL, reduceCtorEq] at h2
  obtain ⟨a, xs, rfl, ha, hh, t⟩ := r1.lst_inv
  cases h2
  exact ⟨a, xs, rfl, .inl (.inl hh), fun p hp => q p _ (s1.trans (same_upd hp)) (Same.free s1 hp) (.lst upd_same ((Reps.ne hp t.reverse).same (same_upd hp)))⟩
theorem call_sumT (hc : X.calm = true) : CallR X (.builtin "sum") (fun vs H Q => ∃ (a : Addr) (ns : List Int), vs = [V.ref a] ∧ SqT X.K H a (ns.map V.int) ∧ Q (.int ns.sum) H) := by
  intro pins s σ H vs us Q I r ⟨a, ns, e, hs, q⟩
  subst e
  obtain ⟨its, rv, ht, _⟩ := I.tuple hs
  rw [Vals.ref1 r]
  obtain ⟨xs, e⟩ := rv.ints.allInts.items
  have hn : numsOf (intItems xs).toList = ns := by rw [← e]; exact rv.ints.numsOf
  rw [nums_intItems] at hn
  rw [e] at ht
  refine PySem.W.ktm_sumG (I.ok.hd hc) ht fun h' tk t' hk => ?_
  rw [preSum_eq, List.take_of_length_le (by simp), hn]
  exact ⟨.int _, H, I.kept hk, ⟨_, rfl⟩, q⟩
theorem cr_sumT (hc : X.calm = true) : CallR X (.builtin "sum") (rC X.mg (f1 sumT)) := by
  intro pins s σ H xs us Q I r ⟨A, ds, d, fr, r1, e, q⟩
  obtain ⟨x, rfl, e2⟩ := f1_one e
  clear e
  obtain ⟨v, rfl, rx⟩ := reps_one r1
  cases rx <;> simp only [sumT, reduceCtorEq] at e2
  · rename_i a xs ds h t
    obtain ⟨ns, h1, h2⟩ := Option.map_eq_some_iff.mp e2
    subst h2
    have := ints_of t h1
    subst this
    exact call_sumT hc pins s σ H _ us Q I r ⟨a, ns, rfl, .inl (.inl h), q _ H (Same.refl H) (.int _)⟩
  · rename_i a xs ds ha h t
    obtain ⟨ns, h1, h2⟩ := Option.map_eq_some_iff.mp e2
    subst h2
    have := ints_of t h1
    subst this
    exact cr_sum hc pins s σ H _ us Q I r ⟨a, ns, rfl, .inl (.inl h), q _ H (Same.refl H) (.int _)⟩
theorem s_ext {i : Nat} {x : Str} {e : Expr} {de : Ex} {px apos cpos pos : Pos} (he : SE X false e de) (hN : X.N[i]? = some x := by rfl) (hv : Vis X.env.scope x := by first | exact Or.inl rfl | exact Or.inr (Or.inl rfl) | exact Or.inr (Or.inr rfl)) (hd : (x == ("__debug__" : Str)) = false := by decide)
    (hcd : (x == ("__classdict__" : Str)) = false := by decide) (hbase : attributeBase (.Name x px) "extend" X.env (eval (.Name x px) X.env) = eval (.Name x px) X.env := by rfl)
    (hfew : ((backTo cpos (starEach (e :: []) X.env)).all (fun x => !x.1) && (backToKw cpos (keywordEach [] X.env)).all (fun x => x.1.isSome)
      && decide ((e :: []).length + ([] : List Keyword).length + (if ([] : List Keyword).isEmpty then 0 else 1) < 30)) = true := by rfl)
    (hline : (apos.endLine == cpos.line) = true := by rfl) (hs : starEach (e :: []) X.env = (false, eval e X.env) :: starEach [] X.env := by rfl) (hplain : (backTo cpos (starEach [] X.env)).any (·.1) = false := by rfl)
    (hsw : swapsWith (.Call (.Attribute (.Name x px) "extend" apos) [e] [] cpos) none pos.line X.env = pure false := by rfl) :
    SS X (.Expr (.Call (.Attribute (.Name x px) "extend" apos) [e] [] cpos) pos) (ext i de) :=
  (ps_expr (pe_bm PySem.F.plainAttrs_list PySem.F.slot_list_extend PySem.F.type_list_extend mt_extend (pe_var hN hv hd hcd) (pa_cons he pa_nil hs) hbase hfew hline hs hplain) hsw).weak fun D σ H ⟨B, O, env, r, rl, h1, q⟩ => by
  obtain ⟨d, hd, h2⟩ := bnd h1
  split at h2
  · rename_i xs ys hi
    split at h2
    · rename_i hz
      cases h2
      obtain ⟨p, g1, g2, g3, g4⟩ := rl.owns i _ hi
      cases g4 with
      | lst hH rs =>
        refine ⟨_, g2, .inl ⟨rfl, _, .inl (.inl hH)⟩, B, O, env, _, rl, hd, fun v H1 s1 r1 => ?_⟩
        have rl1 := rl.heap s1
        have hH1 := s1 _ _ hH
        obtain ⟨b, ws, rfl, hb, hHb, t⟩ := r1.lst_inv
        refine ⟨p, b, _, ws, rfl, rfl, hH1, hHb, by rw [rs.len, t.len]; exact Nat.le_trans hz (szL_ok (Nat.le_refl _)), ?_⟩
        have z := ERel.write (i := i) (p := p) (d' := .lst (xs ++ ys)) rl1 g1 g2 (.lst upd_same (((rs.same s1).append t).mono (fun _ z => z) (keep_write rl1 g1))) trivial
        exact q σ _ O z.1 ((Fm.of_same s1).trans z.2)
    · cases h2
  · cases h2
theorem reps_pair {mg : Str → Option Value} {A : Addr → Prop} {H : Hp} {vs : List V} {x y : D} (r : Reps mg A H vs [x, y]) : ∃ v w, vs = [v, w] ∧ Rep mg A H v x ∧ Rep mg A H w y := by
  cases r with
  | cons h t =>
    obtain ⟨w, rfl, hw⟩ := reps_one t
    exact ⟨_, w, rfl, h, hw⟩
theorem zip_at {mg : Str → Option Value} {A : Addr → Prop} {H : Hp} {us ws : List V} {xs ys : List D} {i : Nat} {x : D} (ta : Reps mg A H us xs) (tb : Reps mg A H ws ys) (e : ((xs.zip ys).map fun p => D.tup [p.1, p.2])[i]? = some x) :
    ∃ x' y', x = .tup [x', y'] ∧ ∃ v w, us[i]? = some v ∧ Rep mg A H v x' ∧ ws[i]? = some w ∧ Rep mg A H w y' := by
  rw [List.getElem?_map] at e
  obtain ⟨p, hp, e⟩ := Option.map_eq_some_iff.mp e
  obtain ⟨h3, h4⟩ := List.getElem?_zip_eq_some.mp hp
  obtain ⟨v, g1, g2⟩ := ta.get h3
  obtain ⟨w, g3, g4⟩ := tb.get h4
  exact ⟨p.1, p.2, e.symm, v, w, g1, g2, g3, g4⟩
theorem zip_end {mg : Str → Option Value} {A : Addr → Prop} {H : Hp} {us ws : List V} {xs ys : List D} {i : Nat} (ta : Reps mg A H us xs) (tb : Reps mg A H ws ys) (e : ((xs.zip ys).map fun p => D.tup [p.1, p.2])[i]? = none) : us.length ≤ i ∨ ws.length ≤ i := by
  have h := List.getElem?_eq_none_iff.mp e
  rw [List.length_map, List.length_zip, ← ta.len, ← tb.len] at h
  omega
theorem si_zip {e1 e2 : Expr} {elts : List Expr} {kk : Nat} {da : Ax} {p pos tpos : Pos} (hm : X.mg "zip" = none) (ha : SA X false [e1, e2] da) (hg : Gl X "zip" := by rfl)
    (hs : starEach [e1, e2] X.env = (false, eval e1 X.env) :: starEach [e2] X.env := by rfl) (hpl : (backTo pos (starEach [e2] X.env)).any (·.1) = false := by rfl) : SI X (.Tuple elts kk tpos) (.Call (.Name "zip" p) [e1, e2] [] pos) (iZp da) := (RZ.pi_zipA hg hm ha hs hpl).weak fun σ H R ⟨B, O, env, ds, r, h1, q⟩ => by
  obtain ⟨xs, hx, h2⟩ := bnd h1
  refine ⟨B, O, env, xs, r, hx, fun vs H1 s1 r1 => ?_⟩
  unfold zipD at h2
  split at h2
  · rename_i xs ys
    cases h2
    obtain ⟨v, w, rfl, r2, r3⟩ := reps_pair r1
    obtain ⟨a, us, rfl, ha, hA, ta⟩ := r2.lst_inv
    obtain ⟨b, ws, rfl, hb, hB, tb⟩ := r3.lst_inv
    refine ⟨a, b, us, ws, rfl, .inl ⟨.inl (.inl hA), .inl (.inl hB), q _ H1 s1 fun i H k => ?_⟩⟩
    have qa : SqL X.K H a us := .inl (.inl (k.lst a us ⟨ha, _, hA⟩ hA))
    have qb : SqL X.K H b ws := .inl (.inl (k.lst b ws ⟨hb, _, hB⟩ hB))
    refine ⟨fun x e => ?_, fun e => ?_⟩
    · obtain ⟨x', y', rfl, v, w, g1, g2, g3, g4⟩ := zip_at (reps_tr ta) (reps_tr tb) e
      refine ⟨⟨us, ws, v, w, qa, qb, g1, g3⟩, fun v' H' ⟨T, x, y, e1, e2, e3, e4, e5⟩ => ?_⟩
      subst e1 e3
      have z1 := e4 us qa
      have z2 := e5 ws qb
      rw [g1] at z1; rw [g3] at z2
      cases z1; cases z2
      exact ⟨same_upd e2, .tup upd_same (.cons ((g2.mono (fun _ z => z) k).same (same_upd e2)) (.cons ((g4.mono (fun _ z => z) k).same (same_upd e2)) .nil))⟩
    · exact ⟨us, ws, qa, qb, zip_end ta tb e⟩
  · rename_i xs ys
    cases h2
    obtain ⟨v, w, rfl, r2, r3⟩ := reps_pair r1
    obtain ⟨a, us, rfl, hA, ta⟩ := r2.tup_inv
    obtain ⟨b, ws, rfl, hB, tb⟩ := r3.tup_inv
    refine ⟨a, b, us, ws, rfl, .inr ⟨.inl (.inl hA), .inl (.inl hB), q _ H1 s1 fun i H k => ?_⟩⟩
    have qa : SqT X.K H a us := .inl (.inl (k.tup a us hA))
    have qb : SqT X.K H b ws := .inl (.inl (k.tup b ws hB))
    refine ⟨fun x e => ?_, fun e => ?_⟩
    · obtain ⟨x', y', rfl, v, w, g1, g2, g3, g4⟩ := zip_at (reps_tr ta) (reps_tr tb) e
      refine ⟨⟨us, ws, v, w, qa, qb, g1, g3⟩, fun v' H' ⟨T, x, y, e1, e2, e3, e4, e5⟩ => ?_⟩
      subst e1 e3
      have z1 := e4 us qa
      have z2 := e5 ws qb
      rw [g1] at z1; rw [g3] at z2
      cases z1; cases z2
      exact ⟨same_upd e2, .tup upd_same (.cons ((g2.mono (fun _ z => z) k).same (same_upd e2)) (.cons ((g4.mono (fun _ z => z) k).same (same_upd e2)) .nil))⟩
    · exact ⟨us, ws, qa, qb, zip_end ta tb e⟩
  · cases h2
end
end PV

namespace PV
variable [LT] [RT]
open PySem PySem.Spec PyProof.Rows L2
def lexLe : List Int → List Int → Bool
  | [], _ => true
  | _ :: _, [] => false
  | a :: x, b :: y => decide (a < b) || (decide (a = b) && lexLe x y)
def tupInts : D → Option (List Int)
  | .tup xs => intsOf xs
  | _ => none
def tupsInts : List D → Option (List (List Int))
  | [] => some []
  | d :: r => (tupInts d).bind fun m => (tupsInts r).bind fun ms => some (m :: ms)
theorem lexLe_trans : ∀ a b c : List Int, lexLe a b = true → lexLe b c = true → lexLe a c = true
  | [], _, _, _, _ => rfl
  | _ :: _, [], _, h, _ => by simp [lexLe] at h
  | _ :: _, _ :: _, [], _, h => by simp [lexLe] at h
  | a :: x, b :: y, c :: z, h1, h2 => by
    simp only [lexLe, Bool.or_eq_true, Bool.and_eq_true, decide_eq_true_eq] at h1 h2 ⊢
    rcases h1 with h1 | ⟨h1, h1'⟩ <;> rcases h2 with h2 | ⟨h2, h2'⟩
    · exact .inl (by omega)
    · exact .inl (by omega)
    · exact .inl (by omega)
    · exact .inr ⟨by omega, lexLe_trans x y z h1' h2'⟩
theorem lexLe_total : ∀ a b : List Int, (lexLe a b || lexLe b a) = true
  | [], _ => rfl
  | _ :: _, [] => rfl
  | a :: x, b :: y => by
    have := lexLe_total x y
    simp only [lexLe, Bool.or_eq_true, Bool.and_eq_true, decide_eq_true_eq] at this ⊢
    by_cases e : a = b
    · rcases this with h | h
      · exact .inl (.inr ⟨e, h⟩)
      · exact .inr (.inr ⟨e.symm, h⟩)
    · by_cases f : a < b
      · exact .inl (.inl f)
      · exact .inr (.inl (by omega))
theorem lexLe_anti : ∀ a b : List Int, lexLe a b = true → lexLe b a = true → a = b
  | [], [], _, _ => rfl
  | [], _ :: _, _, h => by simp [lexLe] at h
  | _ :: _, [], h, _ => by simp [lexLe] at h
  | a :: x, b :: y, h1, h2 => by
    simp only [lexLe, Bool.or_eq_true, Bool.and_eq_true, decide_eq_true_eq] at h1 h2
    rcases h1 with h1 | ⟨h1, h1'⟩ <;> rcases h2 with h2 | ⟨h2, h2'⟩
    · omega
    · omega
    · omega
    · rw [h1, lexLe_anti x y h1' h2']
theorem srt_eq {ms ns : List (List Int)} (h : ns.Perm ms) (p : ns.Pairwise fun a b => lexLe a b = true) : ms.mergeSort lexLe = ns :=
  List.Perm.eq_of_pairwise (le := fun a b => lexLe a b = true) (fun a b _ _ h1 h2 => lexLe_anti a b h1 h2) (List.pairwise_mergeSort lexLe_trans lexLe_total ms) p ((List.mergeSort_perm ms lexLe).trans h.symm)
theorem ints_keys : ∀ (k : List Key) (m : List Int), intsOf (k.map kD) = some m → k = m.map Sum.inl
  | [], m, h => by cases h; rfl
  | x :: r, m, h => by
    cases x <;> simp only [List.map_cons, kD, intsOf, reduceCtorEq] at h
    obtain ⟨m', h3, h4⟩ := Option.map_eq_some_iff.mp h
    subst h4
    rw [List.map_cons, ← ints_keys r m' h3]
theorem tups_rep {mg : Str → Option Value} : ∀ {ks : List (List Key)} {ms : List (List Int)}, tupsInts (ks.map fun k => D.tup (k.map kD)) = some ms → ks = ms.map fun m => m.map Sum.inl
  | [], ms, h => by cases h; rfl
  | k :: ks, ms, h => by
    simp only [List.map_cons, tupsInts, tupInts] at h
    obtain ⟨m, h1, h⟩ := bnd h
    obtain ⟨ms', h2, h⟩ := bnd h
    cases h
    rw [List.map_cons, ← tups_rep (mg := mg) h2, ints_keys k m h1]
section
variable {P : Program} {w : World} {A : Around} {E : Value → Shared → Prop} {s : Shared} {T : String} {r d : Addr} {n : Nat} {C : Nat → Value → Prop} {OK : Heap → Prop}
theorem gather {R : List Value → Shared → Prop} (K : PySem.W.KdlSrc P w T r d n C OK) (hh : A.handled = none) (ok : OK s.heap) (hn : n ≤ sizeLine)
    (h : ∀ (g : Heap) (tk : Nat) (acc : Array Value), (∀ b o, s.heap.get? b = some o → g.get? b = some o) → s.heap.objs.size < g.objs.size → ItemsOf C acc n → R acc.toList { s with heap := g, toks := tk }) : wpAny (model P w) A (collect (.ref r)) R E s := by
  obtain ⟨lr, ld⟩ := K.there _ ok
  have fin : ∀ (g : Heap) (tk : Nat) (acc : Array Value) (c : Nat), (∀ b o, s.heap.get? b = some o → g.get? b = some o) → g.get? s.heap.objs.size = some { cls := .type "list", dict := none, data := .seq acc c, slots := #[] } → ItemsOf C acc n →
      wpAny (model P w) A (load s.heap.objs.size >>= fun o => match o.data with | .seq xs _ => pure xs.toList | _ => unsupported "internal:collect") R E { s with heap := g, toks := tk } := fun g tk acc c k hS it => wpAny_bind (wpAny_load hS (wpAny_pure (h g tk acc k (Heap.lt_size hS) it)))
  unfold collect
  refine wpAny_bind (wpAny_runValue (codeAny_builtin PyProof.Rows.entry_proto_collect' ?_))
  rw [Around.under_plainId PySem.F.plain_proto_collect _]
  show wpAny _ A.in1 (newList [] >>= fun l => again (.builtin "list.__iadd__" ⟨[l, .ref r], []⟩)) _ _ s
  refine wpAny_bind (wpAny_newObj_type (wpAny_pure ⟨plainId_quiet PySem.F.plain_list_iadd _, codeAny_builtin PyProof.Rows.entry_list_iadd' ?_⟩))
  rw [Around.under_plainId PySem.F.plain_list_iadd _]
  show wpAny _ A.in1 (Builtin.List.listExtendWith (.ref s.heap.objs.size) (.ref r) (.ref s.heap.objs.size)) _ _ _
  have key := PySem.W.kdl_extend (A := A) (s := { s with heap := s.heap.push { cls := .type "list", data := .seq ([] : List Value).toArray } }) (R := fun (q : Result) (s' : Shared) => ∃ (g : Heap) (tk : Nat) (acc : Array Value) (c : Nat), q = .ok (.ret (.ref s.heap.objs.size)) ∧ s' = { s with heap := g, toks := tk } ∧ (∀ b o, s.heap.get? b = some o → g.get? b = some o) ∧ g.get? s.heap.objs.size = some { cls := .type "list", dict := none, data := .seq acc c, slots := #[] } ∧ ItemsOf C acc n)
    K hh (K.keep _ _ ok fun b _ o e => Heap.get?_push_of_some _ e) s.heap.objs.size (Nat.ne_of_gt lr) (Nat.ne_of_gt ld) (.ref s.heap.objs.size) 0 (Heap.get?_push_size _ rfl) (fun g tk acc c k hS it => ⟨g, tk, acc, c, rfl, rfl, fun b o e => k b o (Nat.ne_of_lt (Heap.lt_size e)) (Heap.get?_push_of_some _ e), hS, it⟩) hn
  refine wpAny_mono key (fun f s' x => ?_) fun e s' ⟨_, _, _, _, e', _⟩ => by cases e'
  cases f with
  | done f =>
    obtain ⟨g, tk, acc, c, e, rfl, k, hS, it⟩ := x
    cases e
    exact fin g tk acc c k hS it
  | again c₁ =>
    refine ⟨x.1, codeAny_mono x.2 fun q s₂ y => ?_⟩
    obtain ⟨g, tk, acc, c, rfl, rfl, k, hS, it⟩ := y
    exact fin g tk acc c k hS it
end
section
variable {X : Cx}
theorem reps_ints {mg : Str → Option Value} {A : Addr → Prop} {H : Hp} : ∀ l : List Int, Reps mg A H (l.map V.int) (l.map D.int)
  | [] => .nil
  | i :: l => .cons (.int i) (reps_ints l)
theorem reps_tups {mg : Str → Option Value} {A : Addr → Prop} {H : Hp} : ∀ zs : List (Addr × List Int), (∀ z ∈ zs, H z.1 = some (.tup (z.2.map V.int))) → Reps mg A H (zs.map fun z => V.ref z.1) ((zs.map (·.2)).map fun m => D.tup (m.map D.int))
  | [], _ => .nil
  | z :: r, h => .cons (.tup (h z List.mem_cons_self) (reps_ints z.2)) (reps_tups r fun y hy => h y (List.mem_cons_of_mem _ hy))
end
end PV

namespace PV
variable [LT] [RT]
open PySem PySem.Spec PyProof.Rows L2
def seen (l : List Str) (x : Str) : List Str := if l.any (· == x) then l else l ++ [x]
def dst (l : List Str) : List Str := l.foldl seen []
def strsOf : List D → Option (List Str)
  | [] => some []
  | .str x :: r => (strsOf r).map (x :: ·)
  | _ :: _ => none
def lenSet : D → Option D
  | .lst xs => (strsOf xs).bind fun l => if l.length < 64 then some (.int (dst l).length) else none
  | _ => none
theorem dst_snoc (l : List Str) (x : Str) : dst (l ++ [x]) = seen (dst l) x := by
  unfold dst; rw [List.foldl_append]; rfl
theorem seen_len (l : List Str) (x : Str) : (seen l x).length = if l.any (· == x) then l.length else l.length + 1 := by
  unfold seen; split <;> simp
theorem seen_any (l : List Str) (x y : Str) : (seen l x).any (· == y) = (l.any (· == y) || decide (y = x)) := by
  unfold seen
  split
  · rename_i h
    by_cases e : y = x
    · subst e; rw [h]; rfl
    · simp [e]
  · rw [List.any_append]
    congr 1
    by_cases e : y = x
    · subst e; simp
    · have e' : ¬ x = y := fun z => e z.symm
      simp [e, e']
theorem dst_le : ∀ l : List Str, (dst l).length ≤ l.length := by
  intro l
  have : ∀ (l acc : List Str), (l.foldl seen acc).length ≤ acc.length + l.length := by
    intro l
    induction l with
    | nil => intro acc; exact Nat.le_refl _
    | cons x r ih =>
      intro acc
      have h1 := ih (seen acc x)
      rw [seen_len] at h1
      rw [List.foldl_cons, List.length_cons]
      split at h1 <;> omega
  have := this l []
  simpa [dst] using this
section
variable {P : Program} {w : World} {A : Around} {R : Result → Shared → Prop} {I : Addr} {fp wr : List Addr} {G : Array GenState → Array GenState → Prop} {n : Nat} {C : Nat → Value → Prop} {St : Nat → Shared → Prop}
theorem setLoop (W : WalksS P w A.in1 I fp wr G n C St) (a : Addr) (ha : a ∉ fp) (l : List Str) (hl : l.length = n) (hn : n < 64) (hv : ∀ i v, C i v → ∃ t, v = .str (l.getD i Str.empty) t) : ∀ (k i : Nat) (s : Shared), n - i = k → i ≤ n → St i s →
      s.heap.SetOf (PySem.strKind P w) a (fun y => (dst (l.take i)).any (· == y)) (dst (l.take i)).length →
      (∀ g, Moved (a :: wr) G s g → g.heap.SetOf (PySem.strKind P w) a (fun y => (dst l).any (· == y)) (dst l).length → R (.ok (.ret .none)) g) → codeAny (model P w) A (.builtin "set.update.loop" ⟨[.ref a, .ref I], []⟩) R s := by
  have aw : a ∉ wr := fun h => ha (W.sub _ h)
  have up : ∀ b ∈ wr, b ∈ a :: wr := fun b hb => List.mem_cons_of_mem _ hb
  intro k
  induction k with
  | zero =>
    intro i s hk hi st hS hR
    obtain rfl : i = n := by omega
    refine codeAny_builtin F.entry_set_update_loop ?_
    rw [Around.under_plainId F.plain_set_update_loop _]
    show wpAny _ A.in1 (pyNext (.ref I) >>= _) _ _ s
    refine wpAny_bind (W.done s _ _ st fun g hm => ?_)
    obtain ⟨o, es, ep, t, ho, rest⟩ := hS
    have z : l.take i = l := List.take_of_length_le (by omega)
    rw [z] at rest
    exact wpAny_pure (hR g (hm.mono up) ⟨o, es, ep, t, hm.heap a _ aw ho, rest⟩)
  | succ k ih =>
    intro i s hk hi st hS hR
    have lt : i < n := by omega
    refine codeAny_builtin F.entry_set_update_loop ?_
    rw [Around.under_plainId F.plain_set_update_loop _]
    show wpAny _ A.in1 (pyNext (.ref I) >>= _) _ _ s
    refine wpAny_bind (W.item i s _ _ lt st fun v g hC st' hm => ?_)
    obtain ⟨t, rfl⟩ := hv i v hC
    have hS' : g.heap.SetOf (PySem.strKind P w) a (fun y => (dst (l.take i)).any (· == y)) (dst (l.take i)).length := let ⟨o, es, ep, tb, ho, rest⟩ := hS; ⟨o, es, ep, tb, hm.heap a _ aw ho, rest⟩
    show wpAny _ A.in1 (holding [Value.str (l.getD i Str.empty) t] (setAdd a (.str (l.getD i Str.empty) t)) >>= _) _ _ g
    refine wpAny_bind (wpAny_holding ?_)
    unfold setAdd
    refine wpAny_holding (wpAny_bind ((PySem.strKind P w).pyHash (k := l.getD i Str.empty) (strKind_is _ _ _ _) ?_))
    have room : (dst (l.take i)).length + 1 < scanBound := by
      have := dst_le (l.take i)
      rw [List.length_take] at this
      unfold scanBound
      omega
    have tk : l.take (i + 1) = l.take i ++ [l.getD i Str.empty] := by
      rw [List.take_add_one, List.getElem?_eq_getElem (by omega)]
      simp [List.getD, List.getElem?_eq_getElem (show i < l.length by omega)]
    refine wpAny_setAddHashed_of (knd := PySem.strKind P w) (s := { g with toks := g.toks + 1 }) (strKind_is _ _ _ _) rfl hS' room fun h2 sb S2 => ?_
    have S3 : h2.SetOf (PySem.strKind P w) a (fun y => (dst (l.take (i + 1))).any (· == y)) (dst (l.take (i + 1))).length := SetOf_congr S2 (fun y => by rw [tk, dst_snoc, seen_any]) (by rw [tk, dst_snoc, seen_len])
    refine wpAny_pure ⟨plainId_quiet F.plain_set_update_loop _, ih (i + 1) _ (by omega) lt (W.frame _ g _ _ st' (Nat.le_succ _) fun b hb o e => (sb.2 b fun z : b = a => ha (z ▸ hb)).trans e) S3 fun g2 m2 h3 => ?_⟩
    exact hR g2 (Moved.trans W.gtrans ((hm.mono up).then_heap (Nat.le_succ _) fun b o hb e => (sb.2 b fun z : b = a => hb (z ▸ List.mem_cons_self)).trans e) m2) h3
end
section
variable {P : Program} {w : World} {A : Around} {E : Value → Shared → Prop} {s : Shared}
theorem setOfTexts {l : Addr} {its : Array Value} {xs : List Str} {Q : Value → Shared → Prop} (hh : A.handled = none) (hl : s.heap.IsList l its) (hi : StrsAre its.toList xs) (hn : xs.length < 64)
    (h : ∀ (g : Heap) (tk : Nat), g.SetOf (PySem.strKind P w) s.heap.objs.size (fun y => (dst xs).any (· == y)) (dst xs).length → (∀ b o, b < s.heap.objs.size → s.heap.get? b = some o → g.get? b = some o) → Q (.ref s.heap.objs.size) { s with heap := g, toks := tk }) :
    wpAny (model P w) A (call (.type "set") [.ref l]) Q E s := by
  have made := PySem.F.called_set.made
  have sub := PySem.F.called_set.sub
  have nt := PySem.F.called_set.notType
  have cc := PySem.F.called_set.canCreate
  have tc := PySem.F.typeCall_set_1 (.ref l)
  obtain ⟨c, tl, mro⟩ := PySem.F.called_set.mro
  refine wpAny_call (codeAny_of_tree ?_)
  show wpAny _ _ (callAny (.type "set") _) _ _ _
  refine wpAny_pure ⟨Code.quiet_builtin _ (by decide +kernel), codeAny_builtin PySem.F.entry_type_call ?_⟩
  rw [Around.under_plain (weight_type_call_type "set" [.ref l] []) rfl]
  repeat (any_goals (first | assumption | wp_step))
  refine codeAny_mono (code_set_new_1 (.ref l) (E := E) (Q₁ := fun ob t => ∃ led : Bool, ob = .ref s.heap.objs.size ∧ t = { s with heap := s.heap.push { cls := .type "set", dict := none, data := .set #[] 0 (.fresh 0 0 led) } }) fun led => ⟨led, rfl, rfl⟩) fun r t hr => ?_
  cases r with
  | error e => exact hr
  | ok f =>
    cases f with
    | ret ob =>
      obtain ⟨led, rfl, rfl⟩ := hr
      generalize hS0 : ({ cls := .type "set", dict := none, data := .set #[] 0 (.fresh 0 0 led) } : Obj) = S0
      have at0 : (s.heap.push S0).get? s.heap.objs.size = some S0 := Heap.get?_push_size _ (by rw [← hS0]; rfl)
      have ty0 : Shared.TypeIs { s with heap := s.heap.push S0 } (.ref s.heap.objs.size) "set" := ⟨_, at0, by rw [← hS0]⟩
      have ini := PySem.F.called_set.init.lookup
      have bnd := PySem.F.called_set.init.bind (.ref s.heap.objs.size)
      repeat (any_goals (first | assumption | wp_step))
      refine codeAny_mono (codeAny_call_builtin (R := wants (fun r t => r = .none ∧ ∃ (g : Heap) (tk : Nat), t = { s with heap := g, toks := tk } ∧ g.SetOf (PySem.strKind P w) s.heap.objs.size (fun y => (dst xs).any (· == y)) (dst xs).length ∧ (∀ b o, b < s.heap.objs.size → s.heap.get? b = some o → g.get? b = some o)) E) PySem.F.called_set.init.plain PySem.F.entry_set_init (check_set_init_1 ty0 ?_)) fun r2 t2 hr2 => ?_
      · obtain ⟨ol, hol, hcl, nl, hdl⟩ := hl
        obtain ⟨oc, od, ot, os⟩ := ol
        dsimp only at hcl hdl
        subst hcl
        subst hdl
        have ol1 := Heap.get?_push_of_some S0 hol
        have sl := PySem.F.sub_list_set
        have sf := PySem.F.sub_list_frozenset
        have ne : (Value.type "list" == Value.type "dict") = false := by decide
        have l1 : (s.heap.push S0).IsList l its := ⟨_, ol1, rfl, nl, rfl⟩
        subst hS0
        unfold Builtin.«set.__init__» noKeywords Builtin.Frozenset.updateFrom
        generalize hp : pyIter = pI
        wp_walk
        subst hp
        refine wpAny_pyIter_list l1 ?_
        refine wpAny_bind (wpAny_runValue ?_)
        have lS : l < s.heap.objs.size := Heap.lt_size hol
        have h3 : A.in1.in1.in1.handled = none := by simp [hh]
        have n1 : l ≠ (s.heap.push ({ cls := .type "set", dict := none, data := .set #[] 0 (.fresh 0 0 led) } : Obj)).objs.size := fun z => absurd (z ▸ lS) (by rw [Heap.size_push]; exact fun q => Nat.lt_irrefl _ (Nat.lt_of_succ_lt q))
        have n2 : s.heap.objs.size ∉ [(s.heap.push ({ cls := .type "set", dict := none, data := .set #[] 0 (.fresh 0 0 led) } : Obj)).objs.size, l] := by
          rw [Heap.size_push]
          refine fun z => (List.mem_cons.mp z).elim (fun q => Nat.ne_of_lt (Nat.lt_succ_self _) q) fun z => Nat.ne_of_gt lS (List.mem_singleton.mp z)
        have len : xs.length = its.size := by rw [← StrsAre.len_eq hi, Array.length_toList]
        refine setLoop ((Walks.list h3 _ l n1 its).toS) s.heap.objs.size n2 xs len (len ▸ hn) (fun i v hv => _root_.SS.strs_at hi i v (by rw [Array.getElem?_toList]; exact hv)) (its.size - 0) 0 _ (by omega) (Nat.zero_le _) ⟨⟨_, Heap.get?_push_size _ rfl, rfl, rfl⟩, l1.push _⟩ ?_ ?_
        · have at1 := Heap.get?_push_of_some ({ cls := .type "list_iterator", data := .fields #[.ref l, .int 0 0] } : Obj) at0
          exact SetOf_congr ((setObjOf_fresh (knd := PySem.strKind P w) led).setOf at1 (by unfold scanBound; omega)) (fun _ => rfl) rfl
        · intro t hm hS
          obtain ⟨g, g', d', tk, os'⟩ := t
          have e1 : g' = s.gens := hm.gens
          have e2 : d' = s.drawn := hm.drawn
          have e3 : os' = s.os := hm.os
          subst e1 e2 e3
          show wpAny _ _ _ _ _ _
          refine wpAny_pure ?_
          show wpAny _ _ (ret Value.none) _ _ _
          refine wpAny_pure ⟨rfl, g, tk, rfl, hS, fun b o hb e => hm.heap b o ?_ (Heap.get?_push_of_some _ (Heap.get?_push_of_some _ e))⟩
          rw [Heap.size_push]
          refine fun z => (List.mem_cons.mp z).elim (fun q => Nat.ne_of_lt hb q) fun z => Nat.ne_of_lt (Nat.lt_succ_of_lt hb) (List.mem_singleton.mp z)
      · cases r2 with
        | error e => exact hr2
        | ok f2 =>
          cases f2 with
          | ret r =>
            obtain ⟨rfl, g, tk, rfl, hS, hk⟩ := hr2
            repeat (any_goals (first | assumption | wp_step))
            exact h _ _ hS hk
          | _ => exact hr2.elim
    | _ => exact hr.elim
end
section
variable {X : Cx} {τ : Bool}
theorem strs_rep {mg : Str → Option Value} {A : Addr → Prop} {H : Hp} : ∀ {vs : List V} {ds : List D} {l : List Str}, Reps mg A H vs ds → strsOf ds = some l → vs = l.map V.str
  | _, _, _, .nil, e => by cases e; rfl
  | _, _, _, .cons h t, e => by
    cases h <;> simp only [strsOf, reduceCtorEq] at e
    obtain ⟨r, h1, h2⟩ := Option.map_eq_some_iff.mp e
    subst h2
    rw [List.map_cons, ← strs_rep t h1]
theorem se_lenSet {a : Expr} {da : Ex} {p p2 q pos : Pos} (hc : X.calm = true) (hm : X.mg "len" = none) (hm2 : X.mg "set" = none) (ha : SE X true a da) (hg : Gl X "len" := by rfl) (hg2 : Gl X "set" := by rfl) (na : starEach [a] X.env = (false, eval a X.env) :: starEach [] X.env := by rfl)
    (n2 : starEach [.Call (.Name "set" p2) [a] [] q] X.env = (false, eval (.Call (.Name "set" p2) [a] [] q) X.env) :: starEach [] X.env := by rfl) : SE X τ (.Call (.Name "len" p) [.Call (.Name "set" p2) [a] [] q] [] pos) (op1 lenSet da) := by
  refine ⟨fun pins s σ H Q I ⟨B, O, env, d, r, h1, qq⟩ => ?_⟩
  obtain ⟨y, hy, h2⟩ := bnd h1
  refine Call_ (ld_blt I hg hm boot_len (callWith_builtin1 (args_cons (Call_ (ld_blt I hg2 hm2 boot_set ?_)) n2) n2 rfl))
  refine callWith_type1 (args_cons (thn (ha.run pins s σ H _ I ⟨B, O, env, y, r, hy, fun v H' s1 rv => (⟨s1, rv⟩ : Same H H' ∧ Rep X.mg (Lv B O true) H' v y)⟩) fun v s1 ⟨x, H1, I1, r1, ss, rv⟩ => args_nil ?_) na) na rfl
  cases y <;> simp only [lenSet, reduceCtorEq] at h2
  obtain ⟨ad, xs, rfl, _, hH, t⟩ := rv.lst_inv
  obtain ⟨l, hl, h3⟩ := bnd h2
  split at h3
  · rename_i h64
    cases h3
    cases r1
    have e := strs_rep t hl
    subst e
    obtain ⟨its, rr, pl, hz⟩ := I1.list (show SqL X.K H1 ad (l.map V.str) from .inl (.inl hH))
    refine setOfTexts (I1.ok.hd hc) pl.isList (by simpa using strsAre_of rr) h64 fun g tk hS hk => args_nil ?_
    obtain ⟨o, es, ep, tt, ho, hex, hd, _, _, _, hf, hn⟩ := hS
    have I2 : Inv X pins σ H1 { s1 with heap := g, toks := tk } := I1.kept fun b o e => hk b o (Heap.lt_size e) e
    refine call_len_set ho hex hd hf ?_ ⟨.int (dst l).length, H1, I2.tok _, ⟨_, by rw [hn]⟩, qq _ H1 ss (.int _)⟩
    rw [hn]
    have := dst_le l
    omega
  · cases h3
end
end PV

namespace PV
variable [LT] [RT]
open PySem PySem.Spec PyProof.Rows L2
def lc2Run (g g1 : Gx) (di1 : Ax) (te : Ex) (ws1 : List Nat) (e0 : DEnv) : List D → Option (List D)
  | [] => some []
  | x :: xs => (g x e0).bind fun e1 => (di1 e1).bind fun ys => if noOwn e1 ws1 = true then (lcRun g1 yes te (wip e1 ws1) ys).bind fun zs => (lc2Run g g1 di1 te ws1 e0 xs).bind fun r => some (zs ++ r) else none
def lc2E (it : Ax) (g : Tg) (it1 : Ax) (g1 : Tg) (a : Ex) (ws ws1 : List Nat) : Ex := fun e => (it e).bind fun xs => if noOwn e ws = true then (lc2Run (gD g) (gD g1) it1 a ws1 (wip e ws) xs).bind fun ys => if ys.length ≤ szL then some (.lst ys) else none else none
theorem Keep.trans {A : Addr → Prop} {H H' H'' : Hp} (a : Keep A H H') (b : Keep A H' H'') : Keep A H H'' :=
  ⟨fun x u hx _ h => b.rd x u hx (a.rd x u hx h), fun x C d f hx h => b.ins x C d f hx (a.ins x C d f hx h), fun x l hx h => b.lst x l hx (a.lst x l hx h), fun x l h => b.tup x l (a.tup x l h), fun x o l h => b.fz x o l (a.fz x o l h)⟩
theorem Keep.sub {A A' : Addr → Prop} {H H' : Hp} (a : Keep A' H H') (f : ∀ x, A x → A' x) : Keep A H H' :=
  ⟨fun x u hx _ h => a.rd x u (f x hx) h, fun x C d g hx h => a.ins x C d g (f x hx) h, fun x l hx h => a.lst x l (f x hx) h, a.tup, a.fz⟩
theorem lc2_of {K : PySem.W.Frag} {mg : Str → Option Value} {di di1 : Ax} {g g1 : Tg} {te : Ex} {ws ws1 : List Nat} {σ : L2.St} {H : Hp} {Q : VK} (hw : ∀ i ∈ g.slots, i ∈ ws) (hw1 : ∀ i ∈ g1.slots, i ∈ ws1) (hs : ∀ i ∈ ws1, i ∈ ws)
    (h : tN K mg (lc2E di g di1 g1 te ws ws1) σ H Q) : tLc2 (tI K mg di) (tgR K g) (fun _ H Q => Q true H) (tI K mg di1) (tgR K g1) (fun _ H Q => Q true H) (tE K mg false te) ws ws1 σ H Q := by
  obtain ⟨B, O, env, d, rl, e, q⟩ := h
  obtain ⟨xs, hx, e⟩ := bnd e
  split at e
  · rename_i hno
    obtain ⟨ys, hr, e⟩ := bnd e
    split at e
    · rename_i hz
      cases e
      refine ⟨B, O, env, xs, rl, hx, fun J H1 s1 wk => fun D hD => ?_⟩
      have rl1 := rl.heap s1
      have hws : ∀ i ∈ ws, i < σ.length := fun i hi => by
        have z := List.all_eq_true.mp hno i hi
        rw [← rl.len]
        cases e : (env[i]? : Option DSlot) with
        | none => rw [e] at z; cases z
        | some x => exact (List.getElem?_eq_some_iff.mp e).1
      have noO : ∀ i ∈ ws, O i = none := fun i hi => rl.noO hno hi (by rw [rl.len]; exact hws i hi)
      obtain ⟨n, hnl, rm, sub⟩ := (rl1.wip ws hno).more (o := .lst []) hD trivial
      have hOn : putO O n D n = some D := by unfold putO; rw [if_pos rfl]
      have hlen : (PV.wip env ws).length = σ.length := by rw [wip_len]; exact rl.len
      have noP : ∀ i ∈ ws, putO O n D i = none := fun i hi => by
        have := hws i hi
        unfold putO
        rw [if_neg (by omega)]
        exact noO i hi
      refine ⟨fun i m H' => m = xs.length - i ∧ i ≤ xs.length ∧ ∃ vs ys1 ys2, H' D = some (.lst vs) ∧ ERel K mg B (putO O n D) (wipe σ ws) H' (PV.wip env ws) ∧ Reps mg (Lv B (putO O n D) false) H' vs ys1 ∧ lc2Run (gD g) (gD g1) di1 te ws1 (PV.wip env ws) (xs.drop i) = some ys2 ∧ ys = ys1 ++ ys2 ∧ Same H1 H',
        ⟨xs.length, by simp, Nat.zero_le _, [], [], ys, upd_same, rm, .nil, by simpa using hr, rfl, same_upd hD⟩, ?_⟩
      rintro i m H' ⟨rfl, hi', vs, ys1, ys2, hHD, rl', rs, hrun, hys, sm⟩
      by_cases hlt : i < xs.length
      · have hxi : xs[i]? = some xs[i] := List.getElem?_eq_getElem hlt
        obtain ⟨go, yl⟩ := (wk i H' (Same.keep sm)).1 _ hxi
        rw [List.drop_eq_getElem_cons hlt] at hrun
        unfold lc2Run at hrun
        obtain ⟨e1, he1, hrun⟩ := bnd hrun
        obtain ⟨l1, hl1, hrun⟩ := bnd hrun
        split at hrun
        · rename_i hno1
          obtain ⟨zs, hzs, hrun⟩ := bnd hrun
          obtain ⟨rest, hrest, hrun⟩ := bnd hrun
          cases hrun
          refine .inr ⟨go, fun H'' => ∃ vs ys1 ys2, H'' D = some (.lst vs) ∧ ERel K mg B (putO O n D) (wipe σ ws) H'' (PV.wip env ws) ∧ Reps mg (Lv B (putO O n D) false) H'' vs ys1 ∧ lc2Run (gD g) (gD g1) di1 te ws1 (PV.wip env ws) (xs.drop (i + 1)) = some ys2 ∧ ys = ys1 ++ ys2 ∧ Same H1 H'',
            fun H'' z => ⟨xs.length - (i + 1), by omega, rfl, hlt, z⟩, fun v H3 y => ?_⟩
          obtain ⟨s3, rv⟩ := yl v H3 y
          have rl3 := rl'.heap s3
          have rv' : Rep mg (Lv B (putO O n D) false) H3 v xs[i] := rv.mono (fun a ha => ⟨ha.1.1, .inr fun j z => by
            unfold putO at z
            split at z
            · cases z
              obtain ⟨o, ho⟩ := ha.2
              rw [hD] at ho; cases ho
            · exact ha.1.2.elim (fun z => Bool.noConfusion z) fun w => w j z⟩) keepRefl
          refine tgR_oks g rl3 (fun i hi => noP i (hw i hi)) rv' he1 fun σ4 r4 w4 => ⟨by rw [w4 ws hw]; exact wipe_idem, ?_⟩
          refine iteT ⟨B, _, e1, l1, r4, hl1, fun J1 H4 s4 wk1 => ?_⟩
          have rl4 := rl3.heap s4
          have r44 := (r4.heap s4).wip ws1 hno1
          have sm4 := sm.trans (s3.trans s4)
          have hD4 := s4 _ _ (s3 _ _ hHD)
          have rs4 := rs.same (s3.trans s4)
          refine ⟨fun j k Ha => k = l1.length - j ∧ j ≤ l1.length ∧ ∃ vs za zb, Ha D = some (.lst vs) ∧ ERel K mg B (putO O n D) (wipe σ ws) Ha (PV.wip env ws) ∧ ERel K mg B (putO O n D) (wipe σ4 ws1) Ha (PV.wip e1 ws1) ∧ Reps mg (Lv B (putO O n D) false) Ha vs (ys1 ++ za) ∧ lcRun (gD g1) yes te (PV.wip e1 ws1) (l1.drop j) = some zb ∧ zs = za ++ zb ∧ Same H1 Ha ∧ Keep (Lv B (putO O n D) false) H4 Ha,
            ⟨l1.length, by simp, Nat.zero_le _, vs, [], zs, hD4, rl4, r44, by simpa using rs4, by simpa using hzs, rfl, sm4, keepRefl⟩, ?_⟩
          rintro j k Ha ⟨rfl, hj', va, za, zb, hHa, rla, rlb, rsa, hruna, hza, sma, ka⟩
          have kj := wk1 j Ha (ka.sub fun x hx => hx.1)
          by_cases hjl : j < l1.length
          · have hxj : l1[j]? = some l1[j] := List.getElem?_eq_getElem hjl
            obtain ⟨go1, yl1⟩ := kj.1 _ hxj
            rw [List.drop_eq_getElem_cons hjl] at hruna
            unfold lcRun at hruna
            obtain ⟨e2, he2, hruna⟩ := bnd hruna
            obtain ⟨c, hc, hruna⟩ := bnd hruna
            cases hc
            rw [if_pos rfl] at hruna
            obtain ⟨yv, hyv, hruna⟩ := bnd hruna
            obtain ⟨zb', hzb', hruna⟩ := bnd hruna
            cases hruna
            refine .inr ⟨go1, fun Hb => ∃ vs za zb, Hb D = some (.lst vs) ∧ ERel K mg B (putO O n D) (wipe σ ws) Hb (PV.wip env ws) ∧ ERel K mg B (putO O n D) (wipe σ4 ws1) Hb (PV.wip e1 ws1) ∧ Reps mg (Lv B (putO O n D) false) Hb vs (ys1 ++ za) ∧ lcRun (gD g1) yes te (PV.wip e1 ws1) (l1.drop (j + 1)) = some zb ∧ zs = za ++ zb ∧ Same H1 Hb ∧ Keep (Lv B (putO O n D) false) H4 Hb,
              fun Hb z => ⟨l1.length - (j + 1), by omega, rfl, hjl, z⟩, fun v2 H5 y2 => ?_⟩
            obtain ⟨s5, rv5⟩ := yl1 v2 H5 y2
            have rv5' : Rep mg (Lv B (putO O n D) false) H5 v2 l1[j] := rv5.mono (fun a ha => ha.1) keepRefl
            refine tgR_oks g1 (rlb.heap s5) (fun i hi => noP i (hs i (hw1 i hi))) rv5' he2 fun σ6 r6 w6 => ⟨by rw [w6 ws1 hw1]; exact wipe_idem, ?_⟩
            refine iteT ⟨B, _, e2, yv, r6, hyv, fun w H6 s6 rw6 => ?_⟩
            have s56 := s5.trans s6
            have hD6 : H6 D = some (.lst va) := s56 _ _ hHa
            have rla6 := rla.heap s56
            have rlb6 := rlb.heap s56
            have k := keep_write (o' := .lst (va ++ [w])) rla6 hOn
            refine ⟨va, hD6, ?_, va ++ [w], za ++ [yv], zb', upd_same, rla6.poke hOn (by omega) trivial, rlb6.poke hOn (by rw [wip_len]; have a1 := r4.len; have a2 := congrArg List.length (w4 ws hw); rw [wipe_length, wipe_length, wipe_length] at a2; omega) trivial, ?_, hzb', by rw [hza]; simp, ?_, (ka.trans (Same.keep s56)).trans k⟩
            · have hz' := szL_ok hz
              have : va.length = (ys1 ++ za).length := rsa.len
              have h2 : (ys1 ++ za).length < ys.length := by rw [hys, hza]; simp
              omega
            · rw [← List.append_assoc]
              exact ((rsa.same s56).mono (fun _ z => z) k).append (.cons (rw6.mono (fun _ z => z) k) .nil)
            · exact (sma.trans s56).put hD hD6 trivial
          · have hnj : l1[j]? = none := List.getElem?_eq_none (by omega)
            have hdr : l1.drop j = [] := List.drop_eq_nil_of_le (by omega)
            rw [hdr] at hruna
            unfold lcRun at hruna
            cases hruna
            rw [List.append_nil] at hza
            subst hza
            exact .inl ⟨kj.2 hnj, va, ys1 ++ zs, rest, hHa, rla, rsa, hrest, by rw [hys]; simp, sma⟩
        · cases hrun
      · have hn : xs[i]? = none := List.getElem?_eq_none (by omega)
        have hdr : xs.drop i = [] := List.drop_eq_nil_of_le (by omega)
        rw [hdr] at hrun
        unfold lc2Run at hrun
        cases hrun
        rw [List.append_nil] at hys
        subst hys
        refine .inl ⟨(wk i H' (Same.keep sm)).2 hn, ?_⟩
        refine q D H' (s1.trans sm) (Same.free s1 hD) (.lst hHD (rs.mono (fun a ha => ⟨sub false a ha, fun z => ?_⟩) keepRefl))
        subst z
        exact ha.2.elim (fun z => Bool.noConfusion z) fun w => w n hOn
    · cases e
  · cases e
section
variable {X : Cx}
theorem s_setLc2 {elt tg iter tg1 iter1 : Expr} {scope : Scope} {own : List (Str × Nat)} {vs1 : List Nat} {pos spos py : Pos} {di di1 : Ax} {g g1 : Tg} {te : Ex} {i : Nat} {y : Str} (hc : X.calm = true) (hN : X.N.Nodup)
    (hsw : swapsWith (.ListComp elt [⟨tg, iter, [], 0⟩, ⟨tg1, iter1, [], 0⟩] scope pos) (some (.Name y py)) spos.line X.env = pure true) (hi : SI X tg iter di) (ok : BlkOk X.N X.env.scope scope own)
    (hg : ∀ (s : Shared) (H : Hp) (C : Addr) (cl : List (Str × Addr)) (fp : List Addr), PT1 (X.blk s H scope (compEnvC scope cl C X.env) fp) tg g)
    (hi1 : ∀ (s : Shared) (H : Hp) (C : Addr) (cl : List (Str × Addr)) (fp : List Addr), SI (X.blk s H scope (compEnvC scope cl C X.env) fp) tg1 iter1 di1)
    (hg1 : ∀ (s : Shared) (H : Hp) (C : Addr) (cl : List (Str × Addr)) (fp : List Addr), PT1 (X.blk s H scope (compEnvC scope cl C X.env) fp) tg1 g1)
    (he : ∀ (s : Shared) (H : Hp) (C : Addr) (cl : List (Str × Addr)) (fp : List Addr), SE (X.blk s H scope (compEnvC scope cl C X.env) fp) false elt te) (hy : X.N[i]? = some y := by rfl) (hyl : X.env.scope.names.lookup y = some .local := by rfl)
    (hw : ∀ i ∈ g.slots, i ∈ own.map (·.2) := by decide) (hw1 : ∀ i ∈ g1.slots, i ∈ vs1 := by decide) (hv : ∀ i ∈ vs1, i ∈ own.map (·.2) := by decide) (hs : ∀ x, foldedSetIterable iter X.env x = pure x := by intro _; rfl) (hs1 : ∀ env x, foldedSetIterable iter1 env x = pure x := by intro _ _; rfl) {ws : List Nat} (hws : own.map (·.2) = ws := by rfl) :
    SS X (.Assign [.Name y py] (.ListComp elt [⟨tg, iter, [], 0⟩, ⟨tg1, iter1, [], 0⟩] scope pos) spos) (setE i (lc2E di g di1 g1 te ws vs1)) := by
  subst hws
  exact (ps_setLc2 (te := tE X.K X.mg false te) hc hN hy hyl hsw hi ok hv (g := tgR X.K g) (g1 := tgR X.K g1) hg (fun _ _ _ _ _ => pts_nil) hi1 hg1 (fun _ _ _ _ _ => pts_nil) he hs hs1).weak fun D σ H h => lc2_of hw hw1 hv (set_of h)
end
end PV

namespace PV
variable [LT] [RT]
open PySem PySem.Spec PyProof.Rows L2
def spCp (mg : Str → Option Value) (c f g : Str) : Sp := fun vs H Q _ => ∃ (x dx C p : Addr) (u : V) (ws : List V), vs = [.ref x, u, .ref p] ∧ H x = some (.ins C dx []) ∧ mg c = some (.ref C) ∧ p ≠ x ∧ H p = some (.lst ws) ∧
  ∀ q, q ≠ x → H q = none → Q .non (upd (upd (upd H x (.ins C dx [(f, u)])) q (.lst ws)) x (.ins C dx [(f, u), (g, .ref q)]))
structure CopyOk (P : Program) (w : World) (K : PySem.W.Frag) (mg : Str → Option Value) (base : Heap) (k : Nat) (c f g : Str) : Prop where
  ex : ∃ C fa fd ps, FnOk P w K mg base CX0 k fa fd ps (spCp mg c f g) ∧ mg c = some (.ref C) ∧ Mk K C fa ∧ Binds K fd ps []
end PV

namespace PV
variable [LT] [RT]
open PySem PySem.Spec PyProof.Rows L2
def dic1 (k v : Ex) : Ex := fun e => (k e).bind fun x => (v e).bind fun y => if keyD true x then some (.dic true [x] [y]) else none
def isBool : D → Option D
  | .bl _ => some (.bl true)
  | _ => none
section
variable {X : Cx} {τ : Bool}
theorem sn_dic1 {k v : Expr} {dk dv : Ex} {pos : Pos} (hu : X.A.units + 1 < cLine) (hk : SE X false k dk) (hv : SE X false v dv) : SN X (.Dict [some k] [v] pos) (dic1 dk dv) := by
  refine ⟨fun pins s σ H Q I ⟨B, O, env, d, rl, h1, q⟩ => ?_⟩
  obtain ⟨kd, hkd, h2⟩ := bnd h1
  obtain ⟨vd, hvd, h3⟩ := bnd h2
  split at h3
  · rename_i hkey
    cases h3
    have hp := I.hok.fresh (Nat.le_refl s.heap.objs.size)
    have I1 := I.laid (a := s.heap.objs.size) (o := .dT []) (h' := s.heap.push { cls := .type "dict", data := .dict #[] }) (t' := s.toks) (fun _ _ q => Heap.get?_push_of_some _ q) (Nat.le_refl _) (dt_empty s.heap I.big)
    obtain ⟨n, hnl, rm, sub⟩ := rl.more (o := .dT []) hp trivial
    have hOn : putO O n s.heap.objs.size n = some s.heap.objs.size := by unfold putO; rw [if_pos rfl]
    rw [arm_eval_Dict, zip_pairTrees [some k] [v] X.env pos rfl rfl, dictDisplay_pairs _ (by simp [pairTrees]) (by simp [pairTrees])]
    refine wpAny_bind (wpAny_standAt (wpAny_bind ?_))
    unfold subDict
    refine wpAny_bind (wpAny_alloc ?_)
    refine wpAny_bind (wpAny_holding ?_)
    rw [if_pos (by simp [pairTrees])]
    refine wpAny_bind (pairTrees_cons_walk (thn (hk.run pins _ σ _ (fun x H' => Same (upd H s.heap.objs.size (.dT [])) H' ∧ Rep X.mg (Lv B (putO O n s.heap.objs.size) false) H' x kd) I1 ⟨B, _, env, kd, rm, hkd, fun x H' s r => ⟨s, r⟩⟩) fun u s1 ⟨x, H1, I2, rx, ss1, r1⟩ =>
      thn (hv.run pins s1 σ H1 (fun x H' => Same H1 H' ∧ Rep X.mg (Lv B (putO O n s.heap.objs.size) false) H' x vd) I2 ⟨B, _, env, vd, rm.heap ss1, hvd, fun x H' s r => ⟨s, r⟩⟩) fun w s2 ⟨y, H2, I3, ry, ss2, r2⟩ => pairTrees_nil_walk ?_))
    refine wpAny_holding ?_
    have hD : H2 s.heap.objs.size = some (.dT []) := (ss1.trans ss2) _ _ upd_same
    obtain ⟨ks, b, rfl, hb, rfl⟩ := keyT_rep (r1.same ss2) hkey
    cases (show u = Value.ref b from rx)
    obtain ⟨z, hd, xs, rel, dd⟩ := dt_of I3.hok hD
    cases rel
    rw [List.forIn_cons]
    refine wpAny_bind (wpAny_bind (wpAny_bind (wpAny_dictSet_heap (hsz := by simp [sizeLine_eq]) (knd := tupleKind (mixKind X.prog X.w)) (k := ks) (by show X.A.units + 1 ≤ cLine; omega) (key_of I3.hok hb) dd fun h' dd' hs => wpAny_pure ?_)))
    refine wpAny_pure (wpAny_pure (wpAny_pure (wpAny_pure ?_)))
    obtain ⟨o', es, ep, hq, g2, g3, g4, _, g5⟩ := dd'
    have r1' := r1.same ss2
    have KT1 : KT (upd H2 s.heap.objs.size (.dT [(ks, y)])) [(ks, y)] (storedH [] ks b w) := Paired.cons ⟨rfl, by rw [upd_ne (ne_of hb hD (fun z => nomatch z))]; exact hb, ry⟩ Paired.nil
    have I4 := d_write (t' := s2.toks + (tupleKind (mixKind X.prog X.w)).draws ks) I3 (by rw [hD]; exact True.intro) hs ⟨o', hq⟩ (ob := .dT [(ks, y)]) ⟨by simp [sizeLine_eq], hd, _, KT1, o', es, ep, hq, g2, g3, g4, g5⟩
    refine ⟨.ref s.heap.objs.size, _, I4, rfl, ?_⟩
    have kk := keep_write (o' := .dT [(ks, y)]) ((rm.heap ss1).heap ss2) hOn
    refine q _ _ (((same_upd hp).trans (ss1.trans ss2)).put hp hD trivial) hp ?_
    have := Own.dicT (mg := X.mg) (A := fun a => Lv B O false a ∧ a ≠ s.heap.objs.size) (H := upd H2 s.heap.objs.size (.dT [(ks, y)])) (a := s.heap.objs.size) (kvs := [(ks, y)]) (ds := [vd]) upd_same (.cons (r2.mono (fun a ha => ⟨sub false a ha, fun z => ha.2.elim (fun z => Bool.noConfusion z) fun w => w n (by rw [z]; exact hOn)⟩) kk) .nil)
    exact this
  · cases h3
end
end PV

namespace PV
variable [LT] [RT]
open PySem PySem.Spec PyProof.Rows L2
def rN (mg : Str → Option Value) (f : Fn) : List V → Hp → VK → Prop := fun vs H Q => ∃ A ds d, Fr A H ∧ Reps mg A H vs ds ∧ f ds = some d ∧ ∀ p H', Same H H' → H p = none → Own mg (fun a => A a ∧ a ≠ p) H' p d → Q (.ref p) H'
def spN (mg : Str → Option Value) (f : Fn) : Sp := fun vs H Q _ => rN mg f vs H Q
section
variable {P : Program} {w : World} {K : PySem.W.Frag} {mg : Str → Option Value} {base : Heap}
structure MethN (P : Program) (w : World) (K : PySem.W.Frag) (mg : Str → Option Value) (base : Heap) (k : Nat) (c m : Str) (F : Fn) : Prop where
  ex : ∃ C f fd ps, FnOk P w K mg base CX0 k f fd ps (spN mg F) ∧ mg c = some (.ref C) ∧ Cls K C ∧ Meth K C m f ∧ Binds K fd ps []
end
end PV

namespace PV
variable [LT] [RT]
open PySem PySem.Spec PyProof.Rows L2
def iSt (a : Ex) : Ax := fun e => (a e).bind fun d => match d with
  | .str x => some (x.cps.toList.map fun c => .str ⟨#[c]⟩)
  | _ => none
theorem si_str {X : Cx} {tg e : Expr} {de : Ex} (h : SE X false e de) : SI X tg e (iSt de) := (pi_str h).weak fun σ H R ⟨B, O, env, ds, r, h1, q⟩ => by
  obtain ⟨d, hd, h2⟩ := bnd h1
  refine ⟨B, O, env, d, r, hd, fun v H1 s1 r1 => ?_⟩
  split at h2
  · rename_i x
    cases h2
    cases r1
    refine ⟨x, rfl, q _ H1 s1 fun i H k => ⟨fun y e => ?_, fun e => ?_⟩⟩
    · rw [List.getElem?_map] at e
      obtain ⟨c, hc, e⟩ := Option.map_eq_some_iff.mp e
      subst e
      have hc' : x.cps[i]? = some c := by rw [← Array.getElem?_toList]; exact hc
      refine ⟨(Array.getElem?_eq_some_iff.mp hc').1, fun v' H' ⟨e1, c', e2, e3⟩ => ?_⟩
      subst e1 e3
      rw [hc'] at e2
      cases e2
      exact ⟨Same.refl _, .str _⟩
    · have := List.getElem?_eq_none_iff.mp e
      show x.cps.size ≤ i
      simpa using this
  · cases h2
theorem hu65 {k : Nat} {A : Around} (hr : Room k A) : A.units + 65 < cLine := by have := hr.un; omega
def noLst (K : PySem.W.Frag) : Bool := K.all fun q => match q.2.cls with
  | .type c => c != "list"
  | _ => true
theorem list_lookup_mem {a : Addr} {o : Obj} : ∀ {l : List (Addr × Obj)}, l.lookup a = some o → (a, o) ∈ l
  | [], h => by cases h
  | (b, u) :: r, h => by
    simp only [List.lookup] at h
    split at h
    · rename_i e
      cases h
      rw [beq_iff_eq.mp e]
      exact List.mem_cons_self
    · exact List.mem_cons_of_mem _ (list_lookup_mem h)
theorem noLst_rd {K : PySem.W.Frag} (h : noLst K = true) {H : Hp} {a : Addr} {xs : List V} (q : SqL K H a xs) : Rd H a (.lst xs) := by
  rcases q with q | ⟨o, its, n, lk, hc, _⟩
  · exact q
  · have m := list_lookup_mem lk
    have := List.all_eq_true.mp h _ m
    rw [hc] at this
    cases this
def obsE (fa : List He.Fa) (fn : List He.DefD) (ex : List (PySem.W.Frag → Bool)) (K : PySem.W.Frag) : He.AlD := ((He.obsD fa fn K).1 && (ex.all fun f => f K), (He.obsD fa fn K).2)
theorem zf_of {fa : List He.Fa} {fn : List He.DefD} {ex : List (PySem.W.Frag → Bool)} {K : PySem.W.Frag} {mg : Str → Option Value} {h : Heap} (e : obsE fa fn ex K = He.valD fn) (hK : K.In h) (G : h.Ns mainGlobals mg) : ZF fa fn ex K mg := by
  have e1 : ((He.obsD fa fn K).1 && (ex.all fun f => f K)) = true := congrArg (fun z : He.AlD => z.1) e
  have e2 : (He.obsD fa fn K).2 = fn.map He.DefD.val := congrArg (fun z : He.AlD => z.2) e
  rw [Bool.and_eq_true] at e1
  exact ⟨Prod.ext e1.1 e2, e1.2, h, hK, G⟩
theorem law_says {mg : Str → Option Value} {F : Fn} {K : PySem.W.Frag} (hn : noLst K = true) {H : Hp} {a : Addr} {ns : List Int} (hF : F [.scr ns] = some (.bl true)) (hS : SqL K H a (ns.map V.int)) (ht : LamX.Tabs LT.T H := by intro p hp; cases hp) {E : XK} : spD mg F [.ref a] H (fun v _ => v = .bl true) E := by
  refine ⟨fun _ => True, [.scr ns], .bl true, ⟨fun _ _ => trivial, ht⟩, .cons (.scr trivial (noLst_rd hn hS)) .nil, hF, fun v H' _ r => ?_⟩
  cases r
  rfl
end PV

namespace PV
variable [LT] [RT]
open PySem PySem.Spec PyProof.Rows L2
def revT : D → Option D
  | .tup xs => some (.tup xs.reverse)
  | .ftup xs => some (.tup xs.reverse)
  | _ => none
end PV

namespace PV
variable [LT] [RT]
open PySem PySem.Spec PyProof.Rows L2
mutual
def D.alk : D → D → Bool
  | .int _, .int _ => true
  | .tup xs, .tup ys => D.alks xs ys
  | _, _ => false
def D.alks : List D → List D → Bool
  | x :: xs, y :: ys => D.alk x y && D.alks xs ys
  | [], _ => true
  | _ :: _, [] => true
end
mutual
def D.ltv : D → D → Bool
  | .int a, .int b => decide (a < b)
  | .tup xs, .tup ys => D.ltvs xs ys
  | _, _ => false
def D.ltvs : List D → List D → Bool
  | x :: xs, y :: ys => if D.eqv x y = true then D.ltvs xs ys else D.ltv x y
  | [], _ :: _ => true
  | _, [] => false
end
def cmpOK (a b : D) : Bool := a.plain 60 && b.plain 60 && D.alk a b
def ltT (a b : D) : Option Bool := if cmpOK a b = true then some (D.ltv a b) else none
mutual
theorem ltv_toP : ∀ {n m : Nat} {a b : D}, D.plain n a = true → D.plain m b = true → D.alk a b = true → PySem.W.alike (toP a) (toP b) = true ∧ PySem.W.dataLt (toP a) (toP b) = D.ltv a b
  | _, _, .int a, .int b, _, _, _ => ⟨by simp [toP, PySem.W.alike], by rw [toP, toP, PySem.W.dataLt_int, D.ltv]⟩
  | 0, _, .tup xs, .tup ys, ha, _, _ => by simp [D.plain] at ha
  | _ + 1, 0, .tup xs, .tup ys, _, hb, _ => by simp [D.plain] at hb
  | n + 1, m + 1, .tup xs, .tup ys, ha, hb, h => by
    simp only [D.plain] at ha hb
    simp only [D.alk] at h
    have z := ltvs_toP ha hb h
    refine ⟨by simp only [toP, PySem.W.alike]; exact z.1, ?_⟩
    rw [toP, toP, PySem.W.dataLt_tuple, z.2, D.ltv]
  | _, _, .non, _, _, _, h => by cases ‹D› <;> simp [D.alk] at h
  | _, _, .bl _, _, _, _, h => by cases ‹D› <;> simp [D.alk] at h
  | _, _, .str _, _, _, _, h => by cases ‹D› <;> simp [D.alk] at h
  | _, _, .lst _, _, _, _, h => by cases ‹D› <;> simp [D.alk] at h
  | _, _, .dic _ _ _, _, _, _, h => by cases ‹D› <;> simp [D.alk] at h
  | _, _, .ins _ _ _, _, _, _, h => by cases ‹D› <;> simp [D.alk] at h
  | _, _, .scr _, _, _, _, h => by cases ‹D› <;> simp [D.alk] at h
  | _, _, .ftup _, _, _, _, h => by cases ‹D› <;> simp [D.alk] at h
  | _, _, .int _, .non, _, _, h => by simp [D.alk] at h
  | _, _, .int _, .bl _, _, _, h => by simp [D.alk] at h
  | _, _, .int _, .str _, _, _, h => by simp [D.alk] at h
  | _, _, .int _, .tup _, _, _, h => by simp [D.alk] at h
  | _, _, .int _, .lst _, _, _, h => by simp [D.alk] at h
  | _, _, .int _, .dic _ _ _, _, _, h => by simp [D.alk] at h
  | _, _, .int _, .ins _ _ _, _, _, h => by simp [D.alk] at h
  | _, _, .int _, .scr _, _, _, h => by simp [D.alk] at h
  | _, _, .int _, .ftup _, _, _, h => by simp [D.alk] at h
  | _, _, .tup _, .non, _, _, h => by simp [D.alk] at h
  | _, _, .tup _, .bl _, _, _, h => by simp [D.alk] at h
  | _, _, .tup _, .str _, _, _, h => by simp [D.alk] at h
  | _, _, .tup _, .int _, _, _, h => by simp [D.alk] at h
  | _, _, .tup _, .lst _, _, _, h => by simp [D.alk] at h
  | _, _, .tup _, .dic _ _ _, _, _, h => by simp [D.alk] at h
  | _, _, .tup _, .ins _ _ _, _, _, h => by simp [D.alk] at h
  | _, _, .tup _, .scr _, _, _, h => by simp [D.alk] at h
  | _, _, .tup _, .ftup _, _, _, h => by simp [D.alk] at h
theorem ltvs_toP : ∀ {n m : Nat} {a b : List D}, D.plains n a = true → D.plains m b = true → D.alks a b = true → PySem.W.alikeAll (toPs a) (toPs b) = true ∧ PyProof.Rows.lexLt PyProof.Rows.itemOrd (PySem.W.keyToksAll (toPs a)) (PySem.W.keyToksAll (toPs b)) = D.ltvs a b
  | _, _, [], [], _, _, _ => ⟨by simp [toPs, PySem.W.alikeAll], by simp only [toPs, D.ltvs]; exact PyProof.Rows.lex_irrefl _⟩
  | _, _, [], y :: ys, _, _, _ => ⟨by simp [toPs, PySem.W.alikeAll], by
    simp only [toPs, D.ltvs, PySem.W.toks_all_cons, PySem.W.keyToksAll]
    rw [PyProof.Rows.lex_diff (O := PyProof.Rows.itemOrd) (by simp)]; decide⟩
  | _, _, x :: xs, [], _, _, _ => ⟨by simp [toPs, PySem.W.alikeAll], by
    simp only [toPs, D.ltvs, PySem.W.toks_all_cons, PySem.W.keyToksAll]
    rw [PyProof.Rows.lex_diff (O := PyProof.Rows.itemOrd) (by simp)]; decide⟩
  | _, _, x :: xs, y :: ys, ha, hb, h => by
    simp only [D.plains, Bool.and_eq_true] at ha hb
    simp only [D.alks, Bool.and_eq_true] at h
    have z := ltv_toP ha.1 hb.1 h.1
    have zs := ltvs_toP ha.2 hb.2 h.2
    refine ⟨by simp only [toPs, PySem.W.alikeAll, z.1, zs.1, Bool.and_self], ?_⟩
    have e := eqv_toP ha.1 hb.1
    simp only [toPs, D.ltvs]
    by_cases q : D.eqv x y = true
    · rw [if_pos q, PySem.W.dataLt_all_yes z.1 (by rw [e]; exact q), zs.2]
    · rw [if_neg q, PySem.W.dataLt_all_no z.1 (by rw [e]; simpa using q), z.2]
end
theorem alk_ne {a b : D} (h : D.alk a b = true) : toP a ≠ .none ∧ toP b ≠ .none := by
  cases a <;> cases b <;> simp [D.alk] at h <;> simp [toP]
mutual
theorem alk_comm : ∀ a b : D, D.alk a b = D.alk b a
  | a, b => by
    cases a <;> cases b <;> simp only [D.alk]
    exact alks_comm _ _
theorem alks_comm : ∀ a b : List D, D.alks a b = D.alks b a
  | [], [] => rfl
  | [], _ :: _ => rfl
  | _ :: _, [] => rfl
  | x :: xs, y :: ys => by simp only [D.alks]; rw [alk_comm x y, alks_comm xs ys]
end
section
variable {X : Cx}
theorem cmp_facts {s : Shared} {σ : L2.St} {H : Hp} {pins : List (Addr × Obj)} {mg : Str → Option Value} {A : Addr → Prop} {x y : V} {v u : Value} {dx dy : D} (I : Inv X pins σ H s) (r1 : Rep mg A H x dx) (r2 : Rep mg A H y dy) (rx : RelV x v) (ry : RelV y u) (h : cmpOK dx dy = true) (hu : X.A.units + 64 < cLine) :
    ∃ as bs, Reads s.heap v (toP dx) as ∧ Reads s.heap u (toP dy) bs ∧ PySem.W.alike (toP dx) (toP dy) = true ∧ toP dx ≠ .none ∧ X.A.units + min (toP dx).depth (toP dy).depth < cLine ∧ PySem.W.dataLt (toP dx) (toP dy) = D.ltv dx dy ∧ PySem.W.dataLt (toP dy) (toP dx) = D.ltv dy dx := by
  simp only [cmpOK, Bool.and_eq_true] at h
  obtain ⟨as, q1⟩ := Dp.reads I _ x v (plain_dp h.1.1 r1) rx
  obtain ⟨bs, q2⟩ := Dp.reads I _ y u (plain_dp h.1.2 r2) ry
  have d1 := (plain_lay h.1.1).2
  have z := ltv_toP h.1.1 h.1.2 h.2
  have z' := ltv_toP h.1.2 h.1.1 (by rw [alk_comm]; exact h.2)
  exact ⟨as, bs, q1, q2, z.1, (alk_ne h.2).1, by omega, z.2, z'.2⟩
theorem op_ltTD (hu : X.A.units + 64 < cLine) : OpR X (compareOp .Lt) (rB X.mg ltT) := by
  intro pins s σ H x y v u Q I rx ry ⟨A, dx, dy, b, r1, r2, e, q⟩
  unfold ltT at e
  split at e
  · rename_i h
    cases e
    obtain ⟨as, bs, q1, q2, q3, q4, q5, q6, q7⟩ := cmp_facts I r1 r2 rx ry h hu
    exact PySem.W.lt_data q1 q2 q3 q4 q5 (by rw [q6]; exact ⟨.bl _, H, I, rfl, q⟩)
  · cases e
def max2 : Fn := fun ds => match ds with
  | [.int a, .int b] => some (.int (if b > a then b else a))
  | _ => none
end
end PV

namespace PV
variable [LT] [RT]
open PySem PySem.Spec PyProof.Rows L2
def enumD : List D → Option (List D)
  | [.lst xs] => some (xs.zipIdx.map fun p => .tup [.int (p.2 : Int), p.1])
  | [.tup xs] => some (xs.zipIdx.map fun p => .tup [.int (p.2 : Int), p.1])
  | [.ftup xs] => some (xs.zipIdx.map fun p => .tup [.int (p.2 : Int), p.1])
  | _ => none
def iEnum (a : Ax) : Ax := fun e => (a e).bind enumD
end PV

namespace PV
variable [LT] [RT]
open PySem PySem.Spec PyProof.Rows L2
def dcRun (t : Bool) (g : Gx) (kx vx : Ex) (e0 : DEnv) : List D → List D → List D → Option (List D × List D)
  | [], ks, vs => some (ks, vs)
  | x :: xs, ks, vs => (g x e0).bind fun e1 => (kx e1).bind fun k => (vx e1).bind fun v => if keyD t k = true ∧ ks.length = vs.length then dcRun t g kx vx e0 xs (dput ks vs k v).1 (dput ks vs k v).2 else none
def dcE (t : Bool) (it : Ax) (g : Tg) (kx vx : Ex) (ws : List Nat) : Ex := fun e => (it e).bind fun xs => if xs.length ≤ szL ∧ noOwn e ws = true then (dcRun t (gD g) kx vx (wip e ws) xs [] []).bind fun r => some (.dic t r.1 r.2) else none
section
variable {X : Cx}
theorem dictSet_tup {pins : List (Addr × Obj)} {σ : L2.St} {H : Hp} {s : Shared} {E : Value → Shared → Prop} {D b : Addr} {kvs : List (List Key × V)} {k : List Key} {v : V} {u r : Value} {Q : Unit → Shared → Prop} (hu : X.A.units + 1 < cLine) (I : Inv X pins σ H s) (hD : H D = some (.dT kvs)) (hz : kvs.length < sizeLine)
    (hb : H b = some (.tup (k.map kV))) (ru : RelV (.ref b) u) (rv : RelV v r) (h : ∀ s', Inv X pins σ (upd H D (.dT (putK kvs k v))) s' → Q () s') : wpAny (model X.prog X.w) X.A (dictSet D u r) Q E s := by
  cases (show u = Value.ref b from ru)
  obtain ⟨z, hd, xs, rel, dd⟩ := dt_of I.hok hD
  have hl := length_putK kvs k v
  refine wpAny_dictSet_heap (hsz := by rw [← Paired.length rel]; exact z) (knd := tupleKind (mixKind X.prog X.w)) (k := k) (by show X.A.units + 1 ≤ cLine; omega) (key_of I.hok hb) dd fun h' dd' hs => h _ ?_
  obtain ⟨o', es, ep, hq, g2, g3, g4, _, g5⟩ := dd'
  have KT1 : KT (upd H D (.dT (putK kvs k v))) (putK kvs k v) (storedH xs k b r) := (rel.put k hb rv).keeps fun c ys ec => (upd_ne (ne_of ec hD fun z => nomatch z)).trans ec
  exact d_write (t' := s.toks + (tupleKind (mixKind X.prog X.w)).draws k) I (by rw [hD]; exact True.intro) hs ⟨o', hq⟩ (ob := .dT (putK kvs k v)) ⟨by omega, hd, _, KT1, o', es, ep, hq, g2, g3, g4, g5⟩
def tDcT (wi : TI) (g : TG) (tk tv : TE) (ws : List Nat) : TE := fun σ H Q => wi σ H fun J H1 => ∀ D, H1 D = none → ∃ Z : Nat → Nat → Hp → Prop, (∃ m, Z 0 m (upd H1 D (.dT []))) ∧ ∀ i m H, Z i m H →
  (J.stop i H ∧ Q (.ref D) H) ∨ (J.go i H ∧ ∃ N : Hp → Prop, (∀ H', N H' → ∃ m', m' < m ∧ Z (i + 1) m' H') ∧ ∀ x H', J.yld i H x H' → g x (wipe σ ws) H' fun σ2 H2 => wipe σ2 ws = wipe σ ws ∧
    tk σ2 H2 fun y H4 => tv σ2 H4 fun z H5 => ∃ kvs b k, y = .ref b ∧ H5 b = some (.tup (k.map kV)) ∧ H5 D = some (.dT kvs) ∧ kvs.length < sizeLine ∧ N (upd H5 D (.dT (putK kvs k z))))
theorem pe_dcT {kx vx tg iter : Expr} {scope : Scope} {own : List (Str × Nat)} {pos : Pos} {wi : TI} {g : TG} {tk tv : TE} (hu : X.A.units + 1 < cLine) (hcalm : X.calm = true) (hnd : X.N.Nodup) (hi : PI X tg iter wi) (ok : BlkOk X.N X.env.scope scope own)
    (hg : ∀ (s : Shared) (H : Hp) (C : Addr) (cl : List (Str × Addr)) (fp : List Addr), PG (X.blk s H scope (compEnvC scope cl C X.env) fp) tg g)
    (hk : ∀ (s : Shared) (H : Hp) (C : Addr) (cl : List (Str × Addr)) (fp : List Addr), PE (X.blk s H scope (compEnvC scope cl C X.env) fp) kx tk)
    (hv : ∀ (s : Shared) (H : Hp) (C : Addr) (cl : List (Str × Addr)) (fp : List Addr), PE (X.blk s H scope (compEnvC scope cl C X.env) fp) vx tv) (hfold : ∀ x, foldedSetIterable iter X.env x = pure x := by intro _; rfl) :
    PE X (.DictComp kx vx [⟨tg, iter, [], 0⟩] scope pos) (tDcT wi g tk tv (own.map (·.2))) := ⟨fun pins s σ H Q I h => by
  rw [arm_eval_DictComp]
  have cap : ∀ y ∈ scope.names, y.2 = .free → ∃ c, X.env.cells.lookup y.1 = some c := fun y hy e => (ok.free y hy e).elim (fun z => I.ok.has _ (.inl z)) fun z => I.ok.has _ (.inr z)
  refine wpAny_comprehension_free (use := none) rfl hfold (closure_ok cap) ok.kind (fun y hy e => by rw [ok.uniq y hy, e]) (thn (hi.run pins s σ H _ I h) fun xv s1 hx => thn hx fun itv s2 ⟨it, fp, tn, J, H2, e, I2, T, st2, f2, q⟩ => ?_)
  subst e
  refine wpAny_newObj_type (newEnv_comp ?_)
  obtain ⟨D, hD⟩ : ∃ D, s2.heap.objs.size = D := ⟨_, rfl⟩
  rw [hD]
  have hDn : H2 D = none := I2.hok.fresh (Nat.le_of_eq hD)
  obtain ⟨Z, ⟨m0, z0⟩, turn⟩ := q D hDn
  obtain ⟨s3, hs3⟩ : ∃ s3 : Shared, ({ s2 with heap := s2.heap.push { cls := .type "dict", data := .dict #[] } } : Shared) = s3 := ⟨_, rfl⟩
  have e3 : s3.heap = s2.heap.push { cls := .type "dict", data := .dict #[] } := by rw [← hs3]
  have I3 : Inv X pins σ (upd H2 D (.dT [])) s3 := by
    rw [← hs3]
    exact I2.laid (t' := s2.toks) (fun b o e => Heap.get?_push_of_some _ e) (Nat.le_of_eq hD) (by rw [← hD]; exact dt_empty s2.heap I2.big)
  have small : ∀ b ∈ fp, b < s2.heap.objs.size := fun b hb => let ⟨o, e, _⟩ := T.obj _ _ st2 b hb; Heap.lt_size e
  have f3 : ∀ b ∈ fp, FpOk X pins (upd H2 D (.dT [])) b ∧ b < s3.heap.objs.size := fun b hb => by
    have hlt := small b hb
    exact ⟨⟨by rw [upd_ne (by rw [← hD]; exact Nat.ne_of_lt hlt)]; exact (f2 b hb).1, (f2 b hb).2⟩, by rw [e3, Heap.size_push]; exact Nat.lt_succ_of_lt hlt⟩
  have st3 : tn 0 s3.heap := T.keep _ _ _ st2 fun b _ o e => by rw [e3]; exact Heap.get?_push_of_some _ e
  have I4 := block_start I3 ok hnd f3
  have pg := hg s3 (upd H2 D (.dT [])) s3.heap.objs.size (cellsFrom (s3.heap.objs.size + 1) scope.names (cloFrom X.env.cells scope.names [])) fp
  have pk := hk s3 (upd H2 D (.dT [])) s3.heap.objs.size (cellsFrom (s3.heap.objs.size + 1) scope.names (cloFrom X.env.cells scope.names [])) fp
  have pv := hv s3 (upd H2 D (.dT [])) s3.heap.objs.size (cellsFrom (s3.heap.objs.size + 1) scope.names (cloFrom X.env.cells scope.names [])) fp
  have none_fp : ∀ b ∈ fp, (upd H2 D (.dT [])) b = none := fun b hb => (f3 b hb).1.1
  rw [hs3]
  obtain ⟨ce, hce⟩ : ∃ ce, compEnvC scope (cellsFrom (s3.heap.objs.size + 1) scope.names (cloFrom X.env.cells scope.names [])) s3.heap.objs.size X.env = ce := ⟨_, rfl⟩
  rw [hce] at I4 pg pk pv
  have cL : ce.locals = s3.heap.objs.size := by subst hce; rfl
  obtain ⟨H3, hH3⟩ : ∃ H3, upd H2 D (.dT []) = H3 := ⟨_, rfl⟩
  rw [hH3] at I3 I4 pg pk pv z0 none_fp f3
  obtain ⟨s4, hs4⟩ : ∃ s4 : Shared, ({ s3 with heap := pushCells (s3.heap.push { cls := .type "dict", data := .dict #[] }) scope.names } : Shared) = s4 := ⟨_, rfl⟩
  rw [hs4] at I4
  have st4 : tn 0 s4.heap := T.keep _ _ _ st3 fun b _ o e => by rw [← hs4]; exact pushCells_keeps _ _ _ _ (Heap.get?_push_of_some _ e)
  have stat : ∀ {σ' : L2.St} {H' : Hp} {s' : Shared}, Inv (X.blk s3 H3 scope ce fp) [] σ' H' s' → (∀ b ∈ fp, H' b = none) → ∀ b ∈ fp, FpOk (X.blk s3 H3 scope ce fp) [] H' b := fun {σ' H' s'} I' hn b hb =>
    ⟨hn b hb, (I'.ok.exf b hb).1, I'.ok.exfs b hb, .inl hb, fun x c e => (I'.ok.exf b hb).2 x c e, fun p hp => absurd (show p ∈ ([] : List (Addr × Obj)) ++ [] from hp) (by simp)⟩
  have loop : codeAny (model X.prog X.w) X.A (.compLoop (.DictComp kx vx [⟨tg, iter, [], 0⟩] scope pos) 0 (.ref it) (.ref D) ce) (compPost (model X.prog X.w) X.A X.xe none (EP X pins σ Q) (.ref D) s3.heap.objs.size) s4 := by
    refine compLoop_anyD (fun n t => ∃ i H', Inv (X.blk s3 H3 scope ce fp) [] (wipe σ (own.map (·.2))) H' t ∧ tn i t.heap ∧ (∀ b ∈ fp, H' b = none) ∧ Z i n H') (fun n s5 ⟨i, H5, I5, st5, n5, z5⟩ => ?_) m0 ⟨0, H3, I4, st4, none_fp, z0⟩
    rcases turn i n H5 z5 with ⟨stop, qq⟩ | ⟨go, N, hN, step⟩
    · refine thnF (T.done (X.blk s3 H3 scope ce fp) rfl rfl rfl hcalm i [] s5 _ H5 (fun _ _ => False) I5 (stat I5 n5) st5 stop) fun r s6 ⟨hr, I6⟩ => ?_
      subst hr
      have I7 : Inv X pins σ H5 s6 := I3.call' (ch := fp) I6.os I6.base I6.hok I6.bare fun b hb => let z := (f3 b hb).1.2; ⟨z.2.2.1, z.1, z.2.2.2.1, z.2.2.2.2⟩
      have nC : H5 s3.heap.objs.size = none := by rw [← cL]; exact I6.free
      obtain ⟨m, hn, _⟩ := I6.loc
      have hn : s6.heap.Ns ce.locals m := hn
      rw [cL] at hn
      refine ⟨m, hn, fun h'' sb => ?_⟩
      obtain ⟨p0, p1, p2, p3, p4, p5⟩ := I3.fpOk (Nat.le_refl _) nC
      exact ⟨.ref D, H5, I7.turned (t' := s6.toks) (fun b o hb e => (sb.2 b hb).trans e) p0 p1 p3 p4 p5, rfl, qq⟩
    · refine thnF (T.item (X.blk s3 H3 scope ce fp) rfl rfl rfl hcalm i [] s5 _ H5 (fun _ _ => False) I5 (stat I5 n5) st5 go) fun r s6 ⟨u, hr, h6⟩ => ?_
      subst hr
      refine thnF h6 fun _ s7 ⟨x, H7, I7, r7, y7, st7, n7⟩ => ?_
      refine thnF (pg.run _ s7 _ H7 x u _ (I7.pinned (stat I7 n7) (T.obj _ _ st7)) r7 (step x H7 y7)) fun _ s8 ⟨σ8, H8, I8, hw8, q8⟩ => wpAny_pure ?_
      simp only [if_true]
      refine thnF (pk.run _ s8 σ8 H8 _ I8 q8) fun kv s10 ⟨yk, H10, I10, r10, q10⟩ => thnF (pv.run _ s10 σ8 H10 _ I10 q10) fun vv s11 ⟨yv, H11, I11, r11, kvs, b, k, ek, hb, hD11, hz11, nx⟩ => ?_
      subst ek
      refine dictSet_tup (X := X.blk s3 H3 scope ce fp) hu I11 hD11 hz11 hb r10 r11 fun s12 I12 => ?_
      obtain ⟨m', hm, z'⟩ := hN _ nx
      have pin' : ∀ b ∈ fp, ∀ o, s7.heap.get? b = some o → s12.heap.get? b = some o ∧ (upd H11 D (.dT (putK kvs k yv))) b = none := fun b hb o e =>
        let z := I12.pin (b, o) (List.mem_append_right _ (List.mem_append_right _ (mem_pinsAt hb e)))
        ⟨z.1, z.2.1⟩
      refine ⟨m', hm, i + 1, _, (I12.unpinned (pins := [])).weak (by rw [← wipe_length σ8 (own.map (·.2)), hw8]) (fun j v e => ?_), T.keep _ _ _ st7 fun b hb o e => (pin' b hb o e).1, fun b hb => ?_, z'⟩
      · rw [← hw8] at e
        exact (wipe_some e).1
      · obtain ⟨o, e, _⟩ := T.obj _ _ st7 b hb
        exact (pin' b hb o e).2
  subst hs4 hce
  exact codeAny_compStart_dict loop (T.self X.A 0 _ _ _ st4 loop)⟩
end
end PV

namespace PV
variable [LT] [RT]
open PySem PySem.Spec PyProof.Rows L2
def ItX (d : Addr) (o : Obj) (kvs : List (List Key × V)) : It :=
  ⟨fun i H => H d = some (.frz o (.dT kvs)) ∧ i < kvs.length, fun i H x H' => ∃ T k v b, kvs[i]? = some (k, v) ∧ x = .ref T ∧ H T = none ∧ H b = some (.tup (k.map kV)) ∧ H' = upd H T (.tup [.ref b, v]), fun i H => H d = some (.frz o (.dT kvs)) ∧ kvs.length ≤ i⟩
section
variable {X : Cx} {pins : List (Addr × Obj)} {σ : L2.St} {H : Hp} {s : Shared} {d : Addr} {o : Obj}
theorem frz_items {kvs : List (List Key × V)} (I : Inv X pins σ H s) (h : H d = some (.frz o (.dT kvs))) : (d == sysModules) = false ∧ ∃ (es : Array DictEntry) (ep : Nat), DT.Raw s.heap d es ep ∧ o.data = .dict es ep ∧ es.size = kvs.length ∧
    ∀ (i : Nat) (k : List Key) (v : V), kvs[i]? = some (k, v) → ∃ (en : DictEntry) (q : Addr), es[i]? = some en ∧ en.key = .ref q ∧ H q = some (.tup (k.map kV)) ∧ RelV v en.val := by
  obtain ⟨hd, z, hs, xs, pr, o', es, ep, ho, hx, hdt, he, _⟩ := I.hok d _ h
  have ho' := hd
  rw [ho] at ho'
  cases ho'
  refine ⟨hs, es, ep, ⟨_, ho, hx, hdt⟩, hdt, ?_, fun i k v e => ?_⟩
  · have l1 : es.size = xs.length := size_of_entries he
    have l2 : kvs.length = xs.length := Paired.length pr
    omega
  · obtain ⟨b, hb, e1, e2, e3⟩ := paired_get pr e
    have q := entry_at he i
    rw [hb] at q
    cases hen : es[i]? with
    | none => rw [hen] at q; cases q
    | some en =>
      rw [hen] at q
      cases q
      exact ⟨_, b.2.1, rfl, rfl, e2, e3⟩
end
theorem turn_itemsT {P : Program} {w : World} {K : PySem.W.Frag} {d : Addr} {o : Obj} {es : Array DictEntry} {ep : Nat} {kvs : List (List Key × V)} {elts : List Expr} {kk : Nat} {tpos : Pos} (it : Addr) (hod : o.data = .dict es ep) :
    Turn P w K (.Tuple elts kk tpos) (ItX d o kvs) [it] it (fun i h => ∃ ok ov, IsItemIter h it d i kvs.length ep ok ov) where
  mem := by simp
  obj := fun i h ⟨ok, ov, e⟩ b hb => by
    rw [List.mem_singleton.mp hb]
    exact ⟨_, e, fun v z => nomatch z⟩
  keep := fun i h h' ⟨ok, ov, e⟩ k => ⟨ok, ov, k it (by simp) _ e⟩
  item := by
    intro X hP hw hK hc i pins s σ H E I hf ⟨ok, ov, he⟩ ⟨hd, hi⟩
    subst hP hw hK
    obtain ⟨hs, es', ep', hraw, hdt, hsz, ent⟩ := frz_items I hd
    rw [hod] at hdt
    cases hdt
    obtain ⟨⟨k, v⟩, hkv⟩ : ∃ p, kvs[i]? = some p := ⟨kvs[i], List.getElem?_eq_getElem hi⟩
    obtain ⟨en, q, hen, hkey, hq, hv⟩ := ent i k v hkv
    have hie : i < es.size := by omega
    have hen2 : es[i] = en := by rw [Array.getElem?_eq_getElem hie] at hen; exact Option.some.inj hen
    rw [← hsz] at he
    have hlt : it < s.heap.objs.size := Heap.lt_size he
    refine DT.nextI he hraw hie fun h' ho hT hz hk => ?_
    rw [hen2, hkey] at ho hT
    refine ⟨_, rfl, wpAny_letOwnedTupleGo_items (s := { s with heap := h' }) ho fun h'' he' sb => ?_⟩
    have hT2 : h''.get? s.heap.objs.size = some { cls := .type "tuple", data := .seq #[.ref q, en.val] } := (sb.2 _ (Nat.ne_of_gt hlt)).trans hT
    have new : ObjOk X.prog X.w (upd H s.heap.objs.size (.tup [.ref q, v])) h'' s.heap.objs.size (.tup [.ref q, v]) := ⟨by show 2 ≤ sizeLine; decide, [.ref q, en.val], .cons rfl (.cons hv .nil), ⟨_, hT2, rfl, _, rfl⟩⟩
    have I1 : Inv X pins σ (upd H s.heap.objs.size (.tup [.ref q, v])) { s with heap := h'' } :=
      I.turnedNew (t' := s.toks) (ch := [it]) (fun b ob hb e => (sb.2 b (by simpa using hb)).trans (hk b ob (by simpa using hb) e)) hf (Nat.le_refl _) new
    refine ⟨.ref s.heap.objs.size, _, I1, rfl, ⟨_, k, v, q, hkv, rfl, I.hok.fresh (Nat.le_refl _), hq, rfl⟩, ⟨_, _, by rw [← hsz]; exact he'⟩, fun b hb => ?_⟩
    rw [List.mem_singleton.mp hb, upd_ne (Nat.ne_of_lt hlt)]
    exact (hf it (by simp)).1
  done := by
    intro X hP hw hK hc i pins s σ H E I hf ⟨ok, ov, he⟩ ⟨hd, hi⟩
    subst hP hw hK
    obtain ⟨f0, f1, f2, f3, f4, f5⟩ := hf it (by simp)
    obtain ⟨hs, es', ep', hraw, hdt, hsz, ent⟩ := frz_items I hd
    rw [hod] at hdt
    cases hdt
    rw [← hsz] at he
    exact DT.endI (I.ok.hd hc) he hraw (by omega) fun h' eb => ⟨rfl, I.turned (t' := s.toks) (fun b ob hb e => eb b ob hb e) f0 f1 f3 f4 f5⟩
  self := fun A i s Q E st h => let ⟨_, _, e⟩ := st; PySem.W.kcp_self e h
section
variable {X : Cx}
def tItT (td : TE) : TI := fun σ H R => td σ H fun x H1 => ∃ d o kvs, x = .ref d ∧ H1 d = some (.frz o (.dT kvs)) ∧ R (ItX d o kvs) H1
theorem pi_itemsT {e : Expr} {td : TE} {apos cpos : Pos} {elts : List Expr} {kk : Nat} {tpos : Pos} (he : PE X e td) (hbase : attributeBase e "items" X.env (eval e X.env) = eval e X.env := by rfl) (hline : (apos.endLine == cpos.line) = true := by rfl) :
    PI X (.Tuple elts kk tpos) (.Call (.Attribute e "items" apos) [] [] cpos) (tItT td) := ⟨fun pins s σ H R I h => by
  refine wpAny_Call_method (T := "dict") (id := "dict.items") hbase rfl hline F.plainAttrs_dict F.slot_dict_items F.type_dict_items (thn (he.run pins s σ H _ I h) fun u s1 ⟨x, H1, I1, rx, d, o, kvs, ex, hd, q⟩ => ?_)
  subst ex
  obtain rfl : u = Value.ref d := rx
  obtain ⟨hs, es, ep, hraw, hdt, hsz, ent⟩ := frz_items I1 hd
  have nd := hraw
  obtain ⟨od, hod, hxd, hdat⟩ := nd
  refine ⟨hraw.typeIs, fun a ea => by cases ea; exact ⟨od, hod, hxd.2.1⟩, ?_⟩
  have I2 : Inv X pins σ H1 { s1 with heap := s1.heap.push { cls := .type "dict_items", data := .fields #[.ref d] } } := I1.kept (t' := s1.toks) fun b ob q => Heap.get?_push_of_some _ q
  show wpAny _ _ (callWith cpos (.builtin "dict.items") [.ref d] [] []) _ X.xe s1
  refine method_meetsIn F.slot_dict_items F.entry_dict_items rfl (PySem.evalArgs_none ⟨rfl, hraw.typeIs, F.args_dict_items_1 _, _, DT.meetsItems (es := es) (ep := ep) hs, hraw, ?_⟩)
  refine DT.iterI (d := d) ⟨_, Heap.get?_push_size _ rfl, rfl, rfl⟩ (hraw.push _) (pi_one (tk := s1.toks) I2 _ (turn_itemsT _ hdt) ⟨.none, .none, ?_⟩ q)
  rw [← hsz]
  exact Heap.get?_push_size _ rfl⟩
end
end PV

namespace PV
variable [LT] [RT]
open PySem PySem.Spec PyProof.Rows L2
def WalksS (mg : Str → Option Value) (A : Addr → Prop) (J : It) (ds : List D) (H1 : Hp) : Prop := ∀ (i : Nat) H, Same H1 H → (∀ x, ds[i]? = some x → J.go i H ∧ ∀ v H', J.yld i H v H' → Same H H' ∧ Rep mg A H' v x) ∧ (ds[i]? = none → J.stop i H)
theorem dc_walk {K : PySem.W.Frag} {mg : Str → Option Value} {B : Bs} {O : Nat → Option Addr} {env : DEnv} {J : It} {xs : List D} {g : Tg} {kx vx : Ex} {ws : List Nat} {σ : L2.St} {H1 : Hp} {Q : VK} {r : List D × List D} (hw : ∀ i ∈ g.slots, i ∈ ws) (rl1 : ERel K mg B O σ H1 env) (hz : xs.length ≤ szL) (hno : noOwn env ws = true)
    (hr : dcRun true (gD g) kx vx (PV.wip env ws) xs [] [] = some r) (wk : WalksS mg (fun a => Lv B O false a ∧ ∃ o, H1 a = some o) J xs H1) (q : ∀ p H', Same H1 H' → H1 p = none → Own mg (fun a => Lv B O false a ∧ a ≠ p) H' p (.dic true r.1 r.2) → Q (.ref p) H') :
    ∀ D, H1 D = none → ∃ Z : Nat → Nat → Hp → Prop, (∃ m, Z 0 m (upd H1 D (.dT []))) ∧ ∀ i m H, Z i m H → (J.stop i H ∧ Q (.ref D) H) ∨ (J.go i H ∧ ∃ N : Hp → Prop, (∀ H', N H' → ∃ m', m' < m ∧ Z (i + 1) m' H') ∧ ∀ x H', J.yld i H x H' → (tgR K g) x (wipe σ ws) H' fun σ2 H2 => wipe σ2 ws = wipe σ ws ∧
    tE K mg false kx σ2 H2 fun y H4 => tE K mg false vx σ2 H4 fun z H5 => ∃ kvs b k, y = .ref b ∧ H5 b = some (.tup (k.map kV)) ∧ H5 D = some (.dT kvs) ∧ kvs.length < sizeLine ∧ N (upd H5 D (.dT (putK kvs k z)))) := by
  intro D hD
  have inw : ∀ i ∈ ws, i < σ.length := fun i hi => by
    have z := List.all_eq_true.mp hno i hi
    rw [← rl1.len]
    cases e : (env[i]? : Option DSlot) with
    | none => rw [e] at z; cases z
    | some x => exact (List.getElem?_eq_some_iff.mp e).1
  have outO : ∀ i ∈ ws, O i = none := fun i hi => rl1.noO hno hi (by rw [rl1.len]; exact inw i hi)
  obtain ⟨n, hnl, rm, sub⟩ := (rl1.wip ws hno).more (o := .dT []) hD trivial
  have hOn : putO O n D n = some D := by unfold putO; rw [if_pos rfl]
  have wl : (PV.wip env ws).length = σ.length := by rw [wip_len]; exact rl1.len
  have outP : ∀ i ∈ g.slots, putO O n D i = none := fun i hi => by
    have := inw i (hw i hi)
    unfold putO
    rw [if_neg (by omega)]
    exact outO i (hw i hi)
  refine ⟨fun i m H' => m = xs.length - i ∧ i ≤ xs.length ∧ ∃ (kvs : List (List Key × V)) (vs : List PV.D), H' D = some (.dT kvs) ∧ ERel K mg B (putO O n D) (wipe σ ws) H' (PV.wip env ws) ∧ Reps mg (Lv B (putO O n D) false) H' (kvs.map (·.2)) vs ∧ kvs.length ≤ i ∧ dcRun true (gD g) kx vx (PV.wip env ws) (xs.drop i) (kvs.map fun p => .tup (p.1.map kD)) vs = some r ∧ Same H1 H',
    ⟨xs.length, by simp, Nat.zero_le _, [], [], upd_same, rm, .nil, Nat.le_refl _, by simpa using hr, same_upd hD⟩, ?_⟩
  rintro i m H' ⟨rfl, hi', kvs, vs, hHD, rl', rs, hlen, hrun, sm⟩
  by_cases hlt : i < xs.length
  · have hxi : xs[i]? = some xs[i] := List.getElem?_eq_getElem hlt
    obtain ⟨go, yl⟩ := (wk i H' sm).1 _ hxi
    rw [List.drop_eq_getElem_cons hlt] at hrun
    unfold dcRun at hrun
    obtain ⟨e1, he1, hrun⟩ := bnd hrun
    obtain ⟨kd, hkd, hrun⟩ := bnd hrun
    obtain ⟨vd, hvd, hrun⟩ := bnd hrun
    split at hrun
    · rename_i hkey
      refine .inr ⟨go, fun H'' => ∃ (kvs : List (List Key × V)) (vs : List PV.D), H'' D = some (.dT kvs) ∧ ERel K mg B (putO O n D) (wipe σ ws) H'' (PV.wip env ws) ∧ Reps mg (Lv B (putO O n D) false) H'' (kvs.map (·.2)) vs ∧ kvs.length ≤ i + 1 ∧ dcRun true (gD g) kx vx (PV.wip env ws) (xs.drop (i + 1)) (kvs.map fun p => .tup (p.1.map kD)) vs = some r ∧ Same H1 H'',
        fun H'' z => ⟨xs.length - (i + 1), by omega, rfl, hlt, z⟩, fun v H3 y => ?_⟩
      obtain ⟨s3, rv⟩ := yl v H3 y
      have rl3 := rl'.heap s3
      have rv' : Rep mg (Lv B (putO O n D) false) H3 v xs[i] := rv.mono (fun a ha => ⟨ha.1.1, .inr fun j z => by
        unfold putO at z
        split at z
        · cases z
          obtain ⟨o, ho⟩ := ha.2
          rw [hD] at ho; cases ho
        · exact ha.1.2.elim (fun z => Bool.noConfusion z) fun w => w j z⟩) keepRefl
      refine tgR_oks g rl3 outP rv' he1 fun σ4 r4 w4 => ⟨by rw [w4 ws hw]; exact wipe_idem, ?_⟩
      refine ⟨B, _, e1, kd, r4, hkd, fun y4 H4 s4 rk => ⟨B, _, e1, vd, r4.heap s4, hvd, fun z5 H5 s5 rz => ?_⟩⟩
      obtain ⟨ks, b, rfl, hb, rfl⟩ := keyT_rep rk hkey.1
      have s35 := s3.trans (s4.trans s5)
      have hD5 : H5 D = some (.dT kvs) := s35 _ _ hHD
      have rl5 := rl'.heap s35
      obtain ⟨z1, z2⟩ := dput_put eqv_kT (k := ks) rz (rs.same s35)
      have lk := length_putK kvs ks z5
      have k := keep_write (o' := .dT (putK kvs ks z5)) rl5 hOn
      refine ⟨kvs, b, ks, rfl, s5 _ _ hb, hD5, ?_, putK kvs ks z5, (dput (kvs.map fun p => .tup (p.1.map kD)) vs (.tup (ks.map kD)) vd).2, upd_same, rl5.poke hOn (by omega) trivial, z2.mono (fun _ z => z) k, by omega, by rw [z1]; exact hrun, ?_⟩
      · have hz' := szL_ok hz
        omega
      · exact (sm.trans s35).put hD hD5 trivial
    · cases hrun
  · have hn : xs[i]? = none := List.getElem?_eq_none (by omega)
    have hdr : xs.drop i = [] := List.drop_eq_nil_of_le (by omega)
    rw [hdr] at hrun
    unfold dcRun at hrun
    cases hrun
    refine .inl ⟨(wk i H' sm).2 hn, q D H' sm hD (.dicT hHD (rs.mono (fun a ha => ⟨sub false a ha, fun z => ?_⟩) keepRefl))⟩
    subst z
    exact ha.2.elim (fun z => Bool.noConfusion z) fun w => w n hOn
end PV

namespace PV
variable [LT] [RT]
open PySem PySem.Spec PyProof.Rows L2
def itemsD : D → Option (List D)
  | .dic true ks vs => some ((ks.zip vs).map fun p => .tup [p.1, p.2])
  | _ => none
def iItm (a : Ex) : Ax := fun e => (a e).bind itemsD
theorem _root_.L2.PE.or {X : Cx} {e : Expr} {t t' : TE} (h : PE X e t) (h' : PE X e t') : PE X e (fun σ H Q => t σ H Q ∨ t' σ H Q) := ⟨fun pins s σ H Q I q => q.elim (h.run pins s σ H Q I) (h'.run pins s σ H Q I)⟩
section
variable {mg : Str → Option Value} {A : Addr → Prop} {H : Hp} {d : Addr} {od : Obj} {kvs : List (List Key × V)}
theorem keep_lock (hd : H d = some (.dT kvs)) : Keep A H (upd H d (.frz od (.dT kvs))) := by
  refine ⟨fun a u _ _ r => ?_, fun a C dx fs _ e => ?_, fun a xs _ e => ?_, fun a xs e => ?_, fun a ob xs e => ?_⟩
  · by_cases ha : a = d
    · subst ha
      rcases r with r | ⟨o, r⟩
      · rw [hd] at r; cases r; exact .inr ⟨od, upd_same⟩
      · rw [hd] at r; cases r
    · rcases r with r | ⟨o, r⟩
      · exact .inl (by rw [upd_ne ha]; exact r)
      · exact .inr ⟨o, by rw [upd_ne ha]; exact r⟩
  · rw [upd_ne (fun z => by subst z; rw [hd] at e; cases e)]; exact e
  · rw [upd_ne (fun z => by subst z; rw [hd] at e; cases e)]; exact e
  · rw [upd_ne (fun z => by subst z; rw [hd] at e; cases e)]; exact e
  · rw [upd_ne (fun z => by subst z; rw [hd] at e; cases e)]; exact e
theorem tabS_unlock {P : Addr} {q : Str} {o' : HO} (hd : H d = some (.frz od (.dT kvs))) (t : LamX.TabS H P q) : LamX.TabS (upd H d o') P q := by
  obtain ⟨ps, h1, h2, h3⟩ := t
  have ne : P ≠ d := fun e => by subst e; rw [hd] at h1; cases h1
  refine ⟨ps, by rw [upd_ne ne]; exact h1, h2, fun pos cv hc => ?_⟩
  obtain ⟨c, e1, e2⟩ := h3 pos cv hc
  have nc : c ≠ d := fun e => by subst e; rw [hd] at e2; cases e2
  exact ⟨c, e1, by rw [upd_ne nc]; exact e2⟩
theorem rd_unlock {a : Addr} {u : HO} (hd : H d = some (.frz od (.dT kvs))) (r : Rd H a u) (hu : ∀ o w, u ≠ .frz o w) : Rd (upd H d (.dT kvs)) a u := by
  by_cases ha : a = d
  · subst ha
    rcases r with r | ⟨o, r⟩
    · rw [hd] at r; cases r; exact absurd rfl (hu _ _)
    · rw [hd] at r; cases r; exact .inl upd_same
  · rcases r with r | ⟨o, r⟩
    · exact .inl (by rw [upd_ne ha]; exact r)
    · exact .inr ⟨o, by rw [upd_ne ha]; exact r⟩
theorem at_unlock {a : Addr} {u : HO} (hd : H d = some (.frz od (.dT kvs))) (e : H a = some u) (hu : ∀ o w, u ≠ .frz o w) : upd H d (.dT kvs) a = some u := by
  rw [upd_ne (fun z => by subst z; rw [hd] at e; cases e; exact hu _ _ rfl)]; exact e
mutual
theorem Rep.unlock (hd : H d = some (.frz od (.dT kvs))) : ∀ {v : V} {x : PV.D}, Rep mg A H v x → Rep mg A (upd H d (.dT kvs)) v x
  | _, _, .non => .non
  | _, _, .bl b => .bl b
  | _, _, .int i => .int i
  | _, _, .str x => .str x
  | _, _, .tup h r => .tup (at_unlock hd h fun _ _ z => nomatch z) (Reps.unlock hd r)
  | _, _, .ftup h d r => .ftup (by rw [upd_ne (fun z => by subst z; rw [hd] at h; cases h)]; exact h) d (Reps.unlock hd r)
  | _, _, .lst a h r => .lst a (at_unlock hd h fun _ _ z => nomatch z) (Reps.unlock hd r)
  | _, _, .scr a h => .scr a (rd_unlock hd h fun _ _ z => nomatch z)
  | _, _, .dicK a h r => .dicK a (rd_unlock hd h fun _ _ z => nomatch z) (Reps.unlock hd r)
  | _, _, .dicT a h r => .dicT a (rd_unlock hd h fun _ _ z => nomatch z) (Reps.unlock hd r)
  | _, _, .ins a h c r => .ins a (at_unlock hd h fun _ _ z => nomatch z) c (Reps.unlock hd r)
theorem Reps.unlock (hd : H d = some (.frz od (.dT kvs))) : ∀ {vs : List V} {xs : List PV.D}, Reps mg A H vs xs → Reps mg A (upd H d (.dT kvs)) vs xs
  | _, _, .nil => .nil
  | _, _, .cons h t => .cons (Rep.unlock hd h) (Reps.unlock hd t)
end
end
section
variable {K : PySem.W.Frag} {mg : Str → Option Value} {B : Bs} {O : Nat → Option Addr} {env : DEnv} {σ : L2.St} {H : Hp} {d : Addr} {kvs : List (List Key × V)}
def isDT : Option HO → Bool
  | some (.dT _) => true
  | _ => false
theorem lockH_tabs (B : Bs) (d : Addr) (od : Obj) (kvs : List (List Key × V)) : LamX.Tabs LT.T (fun b => if b = d ∧ isDT (B.H0 d) = true then some (HO.frz od (.dT kvs)) else B.H0 b) := fun p hp => by
  have go : ∀ {a : Addr} {u : HO}, B.H0 a = some u → (∀ w, u ≠ .dT w) → (if a = d ∧ isDT (B.H0 d) = true then some (HO.frz od (.dT kvs)) else B.H0 a) = some u := fun {a u} e hu => by
    rw [if_neg]
    · exact e
    · rintro ⟨rfl, z⟩
      rw [e] at z
      cases u <;> first | exact absurd rfl (hu _) | cases z
  obtain ⟨ps, h1, h2, h3⟩ := B.tb p hp
  refine ⟨ps, go h1 (fun _ z => nomatch z), h2, fun pos cv hc => ?_⟩
  obtain ⟨c, e1, e2⟩ := h3 pos cv hc
  exact ⟨c, e1, go e2 (fun _ z => nomatch z)⟩
def lockB (B : Bs) (d : Addr) (od : Obj) (kvs : List (List Key × V)) : Bs := ⟨fun b => if b = d ∧ isDT (B.H0 d) = true then some (.frz od (.dT kvs)) else B.H0 b, B.A0, B.sf, lockH_tabs B d od kvs⟩
theorem lockB_none {od : Obj} {a : Addr} : (lockB B d od kvs).H0 a = none ↔ B.H0 a = none := by
  show (if a = d ∧ isDT (B.H0 d) = true then some (HO.frz od (.dT kvs)) else B.H0 a) = none ↔ _
  split
  · rename_i h
    obtain ⟨rfl, h2⟩ := h
    constructor
    · intro z; cases z
    · intro z; rw [z] at h2; cases h2
  · exact Iff.rfl
theorem lockB_Lv {od : Obj} {τ : Bool} {a : Addr} : Lv (lockB B d od kvs) O τ a ↔ Lv B O τ a := by
  unfold Lv
  rw [lockB_none]
  exact Iff.rfl
theorem lockB_tab {od : Obj} {P : Addr} {q : Str} (t : LamX.TabS (lockB B d od kvs).H0 P q) : LamX.TabS B.H0 P q := by
  have go : ∀ {a : Addr} {u : HO}, (lockB B d od kvs).H0 a = some u → (∀ o w, u ≠ .frz o w) → B.H0 a = some u := fun {a u} e hu => by
    have e' : (if a = d ∧ isDT (B.H0 d) = true then some (HO.frz od (.dT kvs)) else B.H0 a) = some u := e
    split at e'
    · cases e'; exact absurd rfl (hu _ _)
    · exact e'
  obtain ⟨ps, h1, h2, h3⟩ := t
  refine ⟨ps, go h1 (fun _ _ z => nomatch z), h2, fun pos cv hc => ?_⟩
  obtain ⟨c, e1, e2⟩ := h3 pos cv hc
  exact ⟨c, e1, go e2 (fun _ _ z => nomatch z)⟩
theorem ERel.lock (od : Obj) (rl : ERel K mg B O σ H env) (hd : H d = some (.dT kvs)) (hO : ∀ j, O j ≠ some d) : ERel K mg (lockB B d od kvs) O σ (upd H d (.frz od (.dT kvs))) env := by
  have k : ∀ {A : Addr → Prop}, Keep A H (upd H d (.frz od (.dT kvs))) := keep_lock hd
  have up : ∀ {τ a}, Lv B O τ a → Lv (lockB B d od kvs) O τ a := fun h => lockB_Lv.mpr h
  have ne : ∀ {j p}, O j = some p → p ≠ d := fun h z => hO _ (by rw [h, z])
  refine ⟨rl.len, ⟨fun b u e _ => ?_, fun t p2 hp2 => tabS_upd hd trivial (rl.same.tab (fun p3 hp3 => lockB_tab (t p3 hp3)) p2 hp2), fun b h => lockB_none.mpr (rl.same.dom b (dom_upd h))⟩, fun i x e => ?_, fun i x e => ?_, fun i x e => ?_, rl.inj, fun i p e => ?_, fun i p e => lockB_none.mpr (rl.fr0 i p e), rl.bd, rl.nst⟩
  · by_cases hb : b = d
    · subst hb
      have e' : (if b = b ∧ isDT (B.H0 b) = true then some (HO.frz od (.dT kvs)) else B.H0 b) = some u := e
      split at e'
      · rw [upd_same]; exact e'
      · rename_i h
        have eu := rl.same.stay b u e'
        rw [hd] at eu
        have : isDT (B.H0 b) = true := by rw [e', ← Option.some.inj eu]; rfl
        exact absurd ⟨rfl, this⟩ h
    · have e' : (if b = d ∧ isDT (B.H0 d) = true then some (HO.frz od (.dT kvs)) else B.H0 b) = some u := e
      rw [if_neg (fun z => hb z.1)] at e'
      rw [upd_ne hb]; exact rl.same b u e'
  · obtain ⟨v, h1, h2⟩ := rl.vals i x e
    exact ⟨v, h1, h2.mono (fun _ h => up h) k⟩
  · obtain ⟨p, h1, h2, h3, h4⟩ := rl.owns i x e
    exact ⟨p, h1, h2, lockB_none.mpr h3, h4.mono (fun _ h => up h) k fun o z _ => by rw [upd_ne (ne h1)]; exact z⟩
  · obtain ⟨h1, h2, h3⟩ := rl.slfs i x e
    exact ⟨h1, h2, h3.mono (fun _ h => up h) k fun o z _ => by rw [upd_ne (ne h1)]; exact z⟩
  · obtain ⟨o, h1, h2⟩ := rl.trk i p e
    exact ⟨o, by rw [upd_ne (ne e)]; exact h1, h2⟩
theorem walks_items {A : Addr → Prop} {o : Obj} {vs : List PV.D} (hd : H d = some (.frz o (.dT kvs))) (rs : Reps mg A H (kvs.map (·.2)) vs) : WalksS mg A (ItX d o kvs) (((kvs.map fun p => PV.D.tup (p.1.map kD)).zip vs).map fun p => .tup [p.1, p.2]) H := by
  intro i H' s
  have hlen : kvs.length = vs.length := by have := rs.len; simpa using this
  refine ⟨fun x e => ?_, fun e => ⟨s _ _ hd, ?_⟩⟩
  · rw [List.getElem?_map] at e
    obtain ⟨p, hp, e⟩ := Option.map_eq_some_iff.mp e
    obtain ⟨h3, h4⟩ := List.getElem?_zip_eq_some.mp hp
    rw [List.getElem?_map] at h3
    obtain ⟨kv, hkv, h3⟩ := Option.map_eq_some_iff.mp h3
    refine ⟨⟨s _ _ hd, (List.getElem?_eq_some_iff.mp hkv).1⟩, fun v H'' ⟨T, k, w, b, e1, e2, e3, e4, e5⟩ => ?_⟩
    rw [hkv] at e1
    cases e1
    subst e2 e5
    obtain ⟨v2, g1, g2⟩ := rs.get h4
    rw [List.getElem?_map, hkv] at g1
    cases g1
    refine ⟨same_upd e3, ?_⟩
    rw [← e, ← h3]
    have s2 := s.trans (same_upd (o := .tup [.ref b, w]) e3)
    have kr : ∀ ks : List Key, Reps mg A (upd H' T (.tup [.ref b, w])) (ks.map kV) (ks.map kD) := fun ks => by
      induction ks with
      | nil => exact .nil
      | cons a ks ih => cases a with
        | inl i => exact .cons (.int i) ih
        | inr x => exact .cons (.str x) ih
    exact .tup upd_same (.cons (.tup ((same_upd e3) _ _ e4) (kr k)) (.cons (g2.same s2) .nil))
  · have h := List.getElem?_eq_none_iff.mp e
    simp only [List.length_map, List.length_zip] at h
    omega
end
theorem rep_dicT {mg : Str → Option Value} {A : Addr → Prop} {H : Hp} {v : V} {ks vs : List PV.D} (r : Rep mg A H v (.dic true ks vs)) : ∃ d kvs, v = .ref d ∧ A d ∧ Rd H d (.dT kvs) ∧ ks = kvs.map (fun p => PV.D.tup (p.1.map kD)) ∧ Reps mg A H (kvs.map (·.2)) vs := by
  cases r with
  | dicT a h t => exact ⟨_, _, rfl, a, h, rfl, t⟩
section
variable {X : Cx}
theorem sn_dcItems {kx vx : Expr} {elts : List Expr} {kk : Nat} {tpos : Pos} {scope : Scope} {own : List (Str × Nat)} {pos px apos cpos : Pos} {i : Nat} {x : Str} {g : Tg} {dk dv : Ex} (hu : X.A.units + 1 < cLine) (hc : X.calm = true) (hN : X.N.Nodup) (ok : BlkOk X.N X.env.scope scope own)
    (hg : ∀ (s : Shared) (H : Hp) (C : Addr) (cl : List (Str × Addr)) (fp : List Addr), PT1 (X.blk s H scope (compEnvC scope cl C X.env) fp) (.Tuple elts kk tpos) g)
    (hk : ∀ (s : Shared) (H : Hp) (C : Addr) (cl : List (Str × Addr)) (fp : List Addr), SE (X.blk s H scope (compEnvC scope cl C X.env) fp) false kx dk)
    (hv : ∀ (s : Shared) (H : Hp) (C : Addr) (cl : List (Str × Addr)) (fp : List Addr), SE (X.blk s H scope (compEnvC scope cl C X.env) fp) false vx dv)
    (hNx : X.N[i]? = some x := by rfl) (hvx : Vis X.env.scope x := by first | exact Or.inl rfl | exact Or.inr (Or.inl rfl) | exact Or.inr (Or.inr rfl)) (hdx : (x == ("__debug__" : Str)) = false := by decide) (hcdx : (x == ("__classdict__" : Str)) = false := by decide)
    (hbase : attributeBase (.Name x px) "items" X.env (eval (.Name x px) X.env) = eval (.Name x px) X.env := by rfl) (hline : (apos.endLine == cpos.line) = true := by rfl)
    (hw : ∀ i ∈ g.slots, i ∈ own.map (·.2) := by decide) (hs : ∀ y, foldedSetIterable (.Call (.Attribute (.Name x px) "items" apos) [] [] cpos) X.env y = pure y := by intro _; rfl) {ws : List Nat} (hws : own.map (·.2) = ws := by rfl) :
    SN X (.DictComp kx vx [⟨.Tuple elts kk tpos, .Call (.Attribute (.Name x px) "items" apos) [] [] cpos, [], 0⟩] scope pos) (dcE true (iItm (var i)) g dk dv ws) := by
  subst hws
  have base := pe_dcT (tk := tE X.K X.mg false dk) (tv := tE X.K X.mg false dv) hu hc hN (pi_itemsT (elts := elts) (kk := kk) (tpos := tpos) (pe_var hNx hvx hdx hcdx) hbase hline) ok (g := tgR X.K g) hg hk hv hs (pos := pos)
  refine ((pe_lock base).or base).weak fun σ H Q ⟨B, O, env, dd, rl, e, q⟩ => ?_
  obtain ⟨xs, hx, e⟩ := bnd e
  obtain ⟨y, hy, hx⟩ := bnd hx
  unfold var at hy
  split at hy
  · rename_i y' hi
    cases hy
    split at e
    · rename_i hz
      obtain ⟨r, hr, e⟩ := bnd e
      cases e
      obtain ⟨v, hσ, rv⟩ := rl.vals i _ hi
      unfold itemsD at hx
      split at hx
      · cases hx
        obtain ⟨d, kvs, rfl, hA, hR, hks, rs⟩ := rep_dicT rv
        subst hks
        rcases hR with hd | ⟨od, hd⟩
        · have hO : ∀ j, O j ≠ some d := fun j z => hA.2.elim (fun w => Bool.noConfusion w) fun w => w j z
          refine .inl ⟨d, .dT kvs, hd, True.intro, fun od => ⟨.ref d, hσ, d, od, kvs, rfl, upd_same, ?_⟩⟩
          have rl' := rl.lock od hd hO
          refine dc_walk (Q := fun v H' => H' d = some (.frz od (.dT kvs)) ∧ Q v (upd H' d (.dT kvs))) hw rl' hz.1 hz.2 hr (walks_items upd_same ?_) fun p H' s hp o => ?_
          · have z : Reps X.mg (Lv (lockB B d od kvs) O false) (upd H d (.frz od (.dT kvs))) (kvs.map (·.2)) _ := rs.mono (fun _ h => lockB_Lv.mpr h) (keep_lock hd)
            exact reps_tr z
          · have hfd : H' d = some (.frz od (.dT kvs)) := s _ _ upd_same
            have hpd : p ≠ d := fun z => by subst z; rw [upd_same] at hp; cases hp
            refine ⟨hfd, q p _ ⟨fun b u z _ => ?_, fun t p2 hp2 => tabS_unlock hfd (s.tab (fun p3 hp3 => tabS_upd hd trivial (t p3 hp3)) p2 hp2), fun b h => dom_upd (s.dom b (dom_upd h))⟩ (by rw [upd_ne hpd] at hp; exact hp) ?_⟩
            · by_cases hb : b = d
              · subst hb; rw [hd] at z; cases z; exact upd_same
              · rw [upd_ne hb]; exact s b u (by rw [upd_ne hb]; exact z)
            · generalize hR : PV.D.dic true r.1 r.2 = R at o
              cases o with
              | dicT h1 h2 =>
                refine .dicT (by rw [upd_ne hpd]; exact h1) ?_
                have z := Reps.unlock (mg := X.mg) hfd h2
                exact z.mono (fun a h => ⟨lockB_Lv.mp h.1, h.2⟩) keepRefl
              | _ => cases hR
        · exact .inr ⟨.ref d, hσ, d, od, kvs, rfl, hd, dc_walk hw rl hz.1 hz.2 hr (walks_items hd (reps_tr rs)) fun p H' s hp o => q p H' s hp o⟩
      · cases hx
    · cases e
  · cases hy
end
end PV

namespace PV
variable [LT] [RT]
open PySem PySem.Spec PyProof.Rows L2
section
variable {prog : Program} {w : World} {A : Around} {E : Value → Shared → Prop} {s : Shared}
theorem kat_data {b fin : Bool} {Q : Bool → Shared → Prop} : ∀ (xs ys : List PyData) (ps qs : List Value) (as bs : List Addr) (i : Nat), ReadsAll s.heap ps xs as → ReadsAll s.heap qs ys bs → PySem.W.alikeAll xs ys = true →
    (i = 0 → (∀ x ∈ xs.head?, ∃ n, x = .int n) ∧ (∀ y ∈ ys.head?, ∃ n, y = .int n)) → A.units + min (PyData.depthAll xs) (PyData.depthAll ys) < cLine → fin = decide (ps.length < qs.length) →
    Q (PyProof.Rows.lexLt PyProof.Rows.itemOrd (PySem.W.keyToksAll xs) (PySem.W.keyToksAll ys)) s → PySem.W.KatLex prog w A b fin Q (ps.zip qs) i s
  | [], [], _, _, _, _, i, ra, rb, _, _, _, hf, h => by
    cases ra; cases rb
    rw [PyProof.Rows.lex_irrefl] at h
    rw [show fin = false by rw [hf]; rfl]
    exact PySem.W.kat_nil h
  | [], y :: ys, _, _, _, _, i, ra, rb, _, _, _, hf, h => by
    cases ra
    cases rb
    rw [PySem.W.toks_all_cons, PySem.W.keyToksAll, PyProof.Rows.lex_diff (O := PyProof.Rows.itemOrd) (by simp)] at h
    rw [show fin = true by rw [hf]; exact decide_eq_true (Nat.succ_pos _)]
    exact PySem.W.kat_nil h
  | x :: xs, [], _, _, _, _, i, ra, rb, _, _, _, hf, h => by
    cases ra
    cases rb
    rw [PySem.W.toks_all_cons, PySem.W.keyToksAll, PyProof.Rows.lex_diff (O := PyProof.Rows.itemOrd) (by simp)] at h
    rw [show fin = false by rw [hf]; exact decide_eq_false (Nat.not_lt_zero _)]
    exact PySem.W.kat_nil h
  | x :: xs, y :: ys, _, _, _, _, i, ra, rb, hal, h0, hu, hf, h => by
    cases ra with
    | cons r rs =>
      cases rb with
      | cons r' rs' =>
        have a1 := (PySem.W.alike_all_cons hal).1
        have a2 := (PySem.W.alike_all_cons hal).2
        have u1 : A.units + min x.depth y.depth < cLine := by simp only [PyData.depthAll] at hu; omega
        have u2 : A.units + min (PyData.depthAll xs) (PyData.depthAll ys) < cLine := by simp only [PyData.depthAll] at hu; omega
        refine PySem.W.kat_cons (PySem.W.eqAt_alike x y A s _ _ _ _ r r' a1 u1 prog w _ _ (PySem.W.kat_go (fun e => PySem.W.kat_yes ?_) fun e => PySem.W.kat_no ?_))
        · rw [PySem.W.dataLt_all_yes a1 e] at h
          exact kat_data xs ys _ _ _ _ (i + 1) rs rs' a2 (fun z => absurd z (Nat.succ_ne_zero i)) u2 (by rw [hf]; simp only [List.length_cons, Nat.add_lt_add_iff_right]) h
        · rw [PySem.W.dataLt_all_no a1 e] at h
          by_cases hi : i = 0
          · obtain ⟨n, rfl⟩ := (h0 hi).1 x rfl
            obtain ⟨m, rfl⟩ := (h0 hi).2 y rfl
            cases r
            cases r'
            rw [PySem.W.dataLt_int] at h
            exact TS.oneLt_ints _ h
          · rw [show (b && i == 0) = false by simp [hi]]
            exact PySem.W.kat_one _ _ (PySem.W.lt_data (Q := PySem.W.BoolBack Q) r r' a1 (PySem.W.ne_none_of a1 e) u1 h)
def KeyOk (h : Heap) (k : Value → PyData) (vs : List Value) : Prop := ∀ v ∈ vs, ∃ as n r, Reads h v (k v) as ∧ k v = .tuple (.int n :: r)
theorem KeyOk.keep {h h' : Heap} {k : Value → PyData} {vs : List Value} (x : KeyOk h k vs) (kp : ∀ v ∈ vs, ∀ as, Reads h v (k v) as → ∃ bs, Reads h' v (k v) bs) : KeyOk h' k vs := fun v hv =>
  let ⟨as, n, r, q, e⟩ := x v hv
  let ⟨bs, q'⟩ := kp v hv as q
  ⟨bs, n, r, q', e⟩
theorem data_cmp {vs : List Value} {k : Value → PyData} (x : KeyOk s.heap k vs) (al : ∀ v ∈ vs, ∀ u ∈ vs, PySem.W.alike (k v) (k u) = true) (hu : ∀ v ∈ vs, ∀ u ∈ vs, A.units + min (k v).depth (k u).depth < cLine) :
    SrtO.Cmp prog w A s (tuples' true) (fun p => p.1 ∈ vs) (SrtO.lt2 fun v u => PySem.W.dataLt (k v) (k u)) := by
  intro p q hp hq
  obtain ⟨as, n, r, h1, e1⟩ := x _ hp
  obtain ⟨bs, m, t, h2, e2⟩ := x _ hq
  have ha := al _ hp _ hq
  have hr := hu _ hp _ hq
  have fin : SrtO.lt2 (fun v u => PySem.W.dataLt (k v) (k u)) p q = PySem.W.dataLt (k p.1) (k q.1) := rfl
  rw [fin]
  rw [e1] at h1
  rw [e2] at h2
  rw [e1, e2] at ha hr
  rw [e1, e2, PySem.W.dataLt_tuple]
  generalize p.1 = v at h1
  generalize q.1 = u at h2
  cases h1 with
  | tuple ho hc hd hs =>
    cases h2 with
    | tuple ho' hc' hd' hs' =>
      refine PySem.W.kat_lt ho hd ho' hd' (kat_data _ _ _ _ _ _ 0 hs hs' (by simpa [PySem.W.alike] using ha) (fun _ => ⟨fun z hz => ⟨n, by simpa using hz.symm⟩, fun z hz => ⟨m, by simpa using hz.symm⟩⟩) ?_ (by rw [Array.length_toList, Array.length_toList]) ⟨rfl, rfl⟩)
      simp only [PyData.depth] at hr
      omega
theorem data_kind {vs : List Value} {k : Value → PyData} (h2 : 0 < vs.length) (x : KeyOk s.heap k vs) {Q : SortKind → Shared → Prop} (h : Q (tuples' true) s) : wpAny (model prog w) A (keyKind' vs.toArray) Q E s := by
  have fs : ∀ vs : List Value, KeyOk s.heap k vs → ∃ fs, PySem.W.KatTups s.heap vs fs ∧ fs.length = vs.length ∧ ∀ f ∈ fs, ∃ n t, f = Value.int n t := fun vs => by
    induction vs with
    | nil => intro _; exact ⟨[], PySem.W.KatTups.nil, rfl, fun f hf => by simp at hf⟩
    | cons v vs ih =>
      intro x
      obtain ⟨fs, g1, g2, g3⟩ := ih fun u hu => x u (List.mem_cons_of_mem _ hu)
      obtain ⟨as, n, r, h1, e1⟩ := x v List.mem_cons_self
      rw [e1] at h1
      cases h1 with
      | tuple ho hc hd hs =>
        rename_i a o xs m
        generalize hx : xs.toList = l at hs
        cases hs with
        | cons q qs =>
          cases q
          refine ⟨_ :: fs, PySem.W.KatTups.cons (f := .int n _) ho hc hd (by rw [← Array.getElem?_toList, hx]; rfl) g1, by simp [g2], fun f hf => ?_⟩
          rcases List.mem_cons.mp hf with rfl | hf
          · exact ⟨_, _, rfl⟩
          · exact g3 f hf
  obtain ⟨fs, g1, g2, g3⟩ := fs vs x
  exact PySem.W.kat_kind (T := Value.type "int") g1 (by omega) (fun f hf => by obtain ⟨n, t, rfl⟩ := g3 f hf; exact PySem.W.Looks.of_pure rfl) rfl h
end
theorem toks_swo : SrtO.Swo (fun x y : List (Int ⊕ List Nat) => PyProof.Rows.lexLt PyProof.Rows.itemOrd x y) where
  asym := fun x y h => by
    cases h2 : PyProof.Rows.lexLt PyProof.Rows.itemOrd y x with
    | false => rfl
    | true =>
      have := PyProof.Rows.lex_trans (O := PyProof.Rows.itemOrd) x y x h h2
      rw [PyProof.Rows.lex_irrefl] at this
      cases this
  tr := fun x y z h1 h2 => by
    cases h3 : PyProof.Rows.lexLt PyProof.Rows.itemOrd z x with
    | false => rfl
    | true =>
      rcases PyProof.Rows.lex_negTrans (O := PyProof.Rows.itemOrd) z y x h3 with h | h
      · rw [h] at h2; cases h2
      · rw [h] at h1; cases h1
theorem data_swo (k : Value → PyData) : SrtO.Swo (fun v u : Value => PySem.W.dataLt (k v) (k u)) where
  asym := fun x y h => toks_swo.asym _ _ h
  tr := fun x y z h1 h2 => toks_swo.tr _ _ _ h1 h2
theorem data_sortable {prog : Program} {w : World} {A : Around} {s : Shared} {a : Addr} {vs : List Value} {k : Value → PyData} (h2 : 0 < vs.length) (x : ∀ h' : Heap, (∀ b o, b ≠ a → s.heap.get? b = some o → h'.get? b = some o) → KeyOk h' k vs) (al : ∀ v ∈ vs, ∀ u ∈ vs, PySem.W.alike (k v) (k u) = true) (hu : ∀ v ∈ vs, ∀ u ∈ vs, A.units + min (k v).depth (k u).depth < cLine) :
    SrtO.SortableO prog w A s a vs fun v u => PySem.W.dataLt (k v) (k u) := fun h' keep =>
  ⟨tuples' true, fun _ _ hq => data_kind (s := { s with heap := h' }) h2 (x h' keep) hq, data_cmp (s := { s with heap := h' }) (x h' keep) al hu⟩

end PV

namespace PV
variable [LT] [RT]
open PySem PySem.Spec PyProof.Rows L2
def neB (ms : List (List Int)) : Bool := ms.all fun m => !m.isEmpty
def sortKR : D → Option D
  | .dic true ks _ => (tupsInts ks).bind fun ms => if ms.length ≤ szL ∧ neB ms = true then some (.lst (((ms.mergeSort lexLe).reverse).map fun m => .tup (m.map .int))) else none
  | _ => none
def intP (m : List Int) : PyData := .tuple (m.map PyData.int)
theorem toPs_ints : ∀ m : List Int, toPs (m.map D.int) = m.map PyData.int
  | [] => rfl
  | i :: m => by rw [List.map_cons, toPs, toPs_ints m]; rfl
theorem plains_ints : ∀ m : List Int, D.plains 0 (m.map D.int) = true
  | [] => by simp [D.plains]
  | i :: m => by simp only [List.map_cons, D.plains, plains_ints m, Bool.and_true]; simp [D.plain]
theorem alks_ints : ∀ m n : List Int, D.alks (m.map D.int) (n.map D.int) = true
  | [], [] => rfl
  | [], _ :: _ => rfl
  | _ :: _, [] => rfl
  | _ :: m, _ :: n => by simp only [List.map_cons, D.alks, alks_ints m n, D.alk, Bool.and_self]
theorem ltvs_ints : ∀ m n : List Int, D.ltvs (m.map D.int) (n.map D.int) = !lexLe n m
  | [], [] => rfl
  | [], _ :: _ => rfl
  | _ :: _, [] => rfl
  | a :: m, b :: n => by
    simp only [List.map_cons, D.ltvs, D.eqv, D.ltv, lexLe, ltvs_ints m n, beq_iff_eq]
    by_cases h : a = b
    · subst h; simp
    · have h' : ¬ b = a := fun e => h e.symm
      rw [if_neg h]
      by_cases h2 : a < b
      · have h3 : ¬ b < a := by omega
        simp [h2, h3, h']
      · have h3 : b < a := by omega
        simp [h2, h3]
theorem dataLt_ints (m n : List Int) : PySem.W.alike (intP m) (intP n) = true ∧ PySem.W.dataLt (intP m) (intP n) = !lexLe n m := by
  have z := ltvs_toP (plains_ints m) (plains_ints n) (alks_ints m n)
  rw [toPs_ints, toPs_ints, ltvs_ints] at z
  unfold intP
  rw [PySem.W.dataLt_tuple]
  exact ⟨by simp only [PySem.W.alike]; exact z.1, z.2⟩
theorem depth_ints (m : List Int) : (intP m).depth ≤ 1 := by
  have : ∀ m : List Int, PyData.depthAll (m.map PyData.int) = 0 := fun m => by
    induction m with
    | nil => simp [PyData.depthAll]
    | cons a m ih => simp [PyData.depthAll, PyData.depth, ih]
  simp only [intP, PyData.depth, this]
  omega
def vInt : V → Int
  | .int i => i
  | _ => 0
def intsH (H : Hp) : Value → List Int
  | .ref a => match H a with
    | some (.tup xs) => xs.map vInt
    | _ => []
  | _ => []
theorem intsH_of {H : Hp} {a : Addr} {m : List Int} (h : H a = some (.tup (m.map V.int))) : intsH H (.ref a) = m := by
  simp only [intsH, h, List.map_map]
  exact (List.map_congr_left fun _ _ => rfl).trans (List.map_id m)
theorem readsAll_ints {h : Heap} : ∀ {us : List Value} {m : List Int}, IntsAre us m → ∃ as, ReadsAll h us (m.map PyData.int) as
  | _, _, .nil => ⟨_, .nil⟩
  | _, _, .cons i t r => let ⟨as, q⟩ := readsAll_ints (h := h) r; ⟨_, .cons (.int i t) q⟩
section
variable {X : Cx}
theorem call_sortKR (hc : X.calm = true) (hu : X.A.units + 64 < cLine) : CallRK X (.builtin "sorted") [Str.ofString "reverse"] (fun xs ys H Q => ∃ (d : Addr) (kvs : List (List Key × V)) (ms : List (List Int)), xs = [V.ref d] ∧ ys = [.bl true] ∧ Rd H d (.dT kvs) ∧ kvs.map (·.1) = ms.map (fun m => m.map Sum.inl) ∧ ms.length ≤ sizeLine ∧ (∀ m ∈ ms, m ≠ []) ∧
    ∀ p (zs : List (Addr × List Int)), H p = none → zs.map (·.2) = (ms.mergeSort lexLe).reverse → (∀ z ∈ zs, H z.1 = some (.tup (z.2.map V.int))) → Q (.ref p) (upd H p (.lst (zs.map fun z => V.ref z.1)))) := by
  intro pins s σ H xs ys us ws Q I r rk ⟨d, kvs, ms, e, ek, hd, hms, hml, hne, q⟩
  subst e ek
  obtain ⟨w1, rfl, e1⟩ := vals1 rk
  obtain rfl : w1 = Value.bool true := e1
  obtain ⟨u, rfl, rx⟩ := r.one
  cases rx
  obtain ⟨z, hs, ks, pr, o, es, ep, ho, hx, hdt, he, hnd⟩ := (show ObjOk X.prog X.w H s.heap d (.dT kvs) from hd.ok I.hok)
  have l1 : es.size = ks.length := size_of_entries he
  have l2 : kvs.length = ks.length := Paired.length pr
  have l3 : kvs.length = ms.length := by have := congrArg List.length hms; simpa using this
  have hh : X.A.handled = none := I.ok.hd hc
  have hz : ∃ zs : List (Addr × List Int), zs.map (·.2) = ms ∧ zs.map (·.1) = ks.map (fun x => x.2.1) ∧ ∀ z ∈ zs, H z.1 = some (.tup (z.2.map V.int)) := by
    clear q hml hne l1 l2 l3 he hnd hd z
    induction pr generalizing ms with
    | nil =>
      cases ms with
      | nil => exact ⟨[], rfl, rfl, fun z hz => nomatch hz⟩
      | cons a b => cases hms
    | cons h t ih =>
      cases ms with
      | nil => cases hms
      | cons m ms =>
        rw [List.map_cons, List.map_cons] at hms
        injection hms with e1 e2
        obtain ⟨zs, g1, g2, g3⟩ := ih ms e2
        refine ⟨(_, m) :: zs, by rw [List.map_cons, g1], by rw [List.map_cons, List.map_cons, g2], fun z hz => ?_⟩
        rcases List.mem_cons.mp hz with rfl | hz
        · have := h.2.1
          rw [e1, List.map_map] at this
          exact this
        · exact g3 z hz
  obtain ⟨zs, z1, z2, z3⟩ := hz
  show wpAny _ _ (call (.builtin "sorted") [.ref d] [(Str.ofString "reverse", .bool true)]) _ _ s
  refine call_function_entry_kw kind_sorted plain_sorted entry_sorted (PyProof.Rows.args_sorted_rev _ _) ?_
  unfold Builtin.«sorted»
  refine wpAny_bind (m := checkCount "sorted" 1 1 _) (wpAny_pure ?_)
  refine wpAny_bind (gather (A := X.A.in1) (kdl_raw hs hx hdt) hh ho (by omega) fun h' tk acc hk hgt it => ?_)
  have ea : acc.toList = zs.map fun z => Value.ref z.1 := by
    have e3 : (zs.map fun z => Value.ref z.1) = ks.map fun x => Value.ref x.2.1 := by
      have := congrArg (List.map Value.ref) z2
      rw [List.map_map, List.map_map] at this
      exact this
    rw [e3]
    have hl : acc.toList.length = ks.length := by rw [Array.length_toList, it.1]; exact l1
    apply List.ext_getElem?
    intro j
    rw [List.getElem?_map]
    cases hj : acc.toList[j]? with
    | none =>
      have g := List.getElem?_eq_none_iff.mp hj
      rw [List.getElem?_eq_none (by omega), Option.map_none]
    | some v =>
      obtain ⟨en, hen, hv⟩ := it.2 j v (by rw [← Array.getElem?_toList]; exact hj)
      have qe := entry_at he j
      rw [hen] at qe
      cases hb : ks[j]? with
      | none => rw [hb] at qe; cases qe
      | some b =>
        rw [hb] at qe
        cases qe
        rw [hv]; rfl
  have hlen : acc.toList.length = zs.length := by rw [ea, List.length_map]
  have zl : zs.length = ms.length := by rw [← z1, List.length_map]
  have lsz : acc.toList.length ≤ sizeLine := by omega
  refine wpAny_bind (wpAny_newList ?_ lsz)
  have hoL : (h'.push (seqObj "list" acc.toList.toArray 0)).get? h'.objs.size = some (seqObj "list" acc.toList.toArray 0) := Heap.get?_push_size _ rfl
  have kb : ∀ b o, s.heap.get? b = some o → (h'.push (seqObj "list" acc.toList.toArray 0)).get? b = some o := fun b o e => Heap.get?_push_of_some _ (hk b o e)
  have hlt := Nat.le_of_lt hgt
  show wpAny _ _ _ _ _ { s with heap := h'.push (seqObj "list" acc.toList.toArray 0), toks := tk }
  have kk : ∀ z ∈ zs, intsH H (.ref z.1) = z.2 := fun z hz => intsH_of (z3 z hz)
  have keyok : ∀ g : Heap, (∀ b o, b ≠ h'.objs.size → (h'.push (seqObj "list" acc.toList.toArray 0)).get? b = some o → g.get? b = some o) → KeyOk g (fun v => intP (intsH H v)) acc.toList := fun g hg v hv => by
    rw [ea] at hv
    obtain ⟨z, hz, rfl⟩ := List.mem_map.mp hv
    obtain ⟨_, its, rv, ot, hot, hct, nt, hdt⟩ := (show ObjOk X.prog X.w H s.heap z.1 (.tup (z.2.map V.int)) from I.hok z.1 _ (z3 z hz))
    have hne2 : z.2 ≠ [] := hne _ (by rw [← z1]; exact List.mem_map.mpr ⟨z, hz, rfl⟩)
    obtain ⟨as, ra⟩ := readsAll_ints (h := g) rv.ints
    show ∃ as n r, Reads g (.ref z.1) (intP (intsH H (.ref z.1))) as ∧ intP (intsH H (.ref z.1)) = .tuple (.int n :: r)
    rw [kk z hz]
    obtain ⟨n, m', hm⟩ := List.exists_cons_of_ne_nil hne2
    refine ⟨_, n, m'.map PyData.int, .tuple (hg _ _ (Nat.ne_of_lt (Heap.lt_size (hk _ _ hot))) (kb _ _ hot)) hct hdt ra, by rw [hm]; rfl⟩
  have sb : 2 ≤ acc.toList.length → SrtO.SortableO X.prog X.w X.A.in1.in1 { s with heap := h'.push (seqObj "list" acc.toList.toArray 0), toks := tk } h'.objs.size acc.toList (fun v u => PySem.W.dataLt (intP (intsH H v)) (intP (intsH H u))) := fun h2 =>
    data_sortable (k := fun v => intP (intsH H v)) (by omega) keyok (fun v _ u _ => (dataLt_ints _ _).1) fun v _ u _ => by
      have d1 := depth_ints (intsH H v)
      have ua : X.A.in1.in1.units = X.A.units + 2 := rfl
      omega
  refine wpAny_bind (wpAny_holding (wpAny_call_entry_kw slot_list_sort ⟨_, hoL, rfl⟩ entry_list_sort ?_ (PyProof.Rows.args_list_sort_rev _ _)))
  refine SrtR.list_sort_ordR (b := true) (data_swo fun v => intP (intsH H v)) hoL lsz sb fun out o1 o2 => ⟨_, rfl, ?_⟩
  simp only [if_true] at o2 ⊢
  refine wpAny_pure ⟨_, rfl, ?_⟩
  have pm : out.Perm acc.toList := o2.perm.trans (List.reverse_perm _)
  obtain ⟨ws, w1, w2⟩ := perm_lift (fun z : Addr × List Int => Value.ref z.1) pm zs ea.symm
  have hws : ∀ z ∈ ws, z ∈ zs := fun z hz => w1.mem_iff.mp hz
  have hsort : ws.map (·.2) = ms.mergeSort lexLe := by
    refine (srt_eq ?_ ?_).symm
    · rw [← z1]; exact w1.map _
    · rw [← w2, SrtO.Srtd, List.pairwise_map] at o1
      rw [List.pairwise_map]
      refine List.Pairwise.imp_of_mem (fun {x y} hx hy h => ?_) o1
      have h2 := h
      rw [kk x (hws x hx), kk y (hws y hy), (dataLt_ints _ _).2] at h2
      simpa using h2
  obtain ⟨eF, heF⟩ := PyProof.Rows.sortedHeap_at (vs := acc.toList) (out := out.toArray.reverse) hoL
  have kS : ∀ b o, s.heap.get? b = some o → (sortedHeap (h'.push (seqObj "list" acc.toList.toArray 0)) h'.objs.size acc.toList out.toArray.reverse).get? b = some o := fun b o e =>
    (PyProof.Rows.sortedHeap_old (Nat.ne_of_lt (Heap.lt_size (hk b o e))) (Heap.lt_size (kb b o e))).trans (kb b o e)
  refine ⟨.ref h'.objs.size, upd H h'.objs.size (.lst (ws.reverse.map fun z => V.ref z.1)), I.laid (t' := tk) kS hlt ⟨?_, out.reverse, eF, ?_, by rw [show out.reverse.toArray = out.toArray.reverse by simp]; exact heF⟩, rfl, q _ ws.reverse (I.hok.fresh hlt) (by rw [List.map_reverse, hsort]) fun z hz => z3 z (hws z (List.mem_reverse.mp hz))⟩
  · rw [List.length_map, List.length_reverse, w1.length_eq, zl]; exact hml
  · rw [← w2, ← List.map_reverse]
    generalize ws.reverse = l
    induction l with
    | nil => exact .nil
    | cons a b ih => exact .cons rfl ih
theorem sn_sortKR {e : Expr} {de : Ex} {p pos kp kpos : Pos} {j : Nat} (hc : X.calm = true) (hu : X.A.units + 64 < cLine) (hm : X.mg "sorted" = none) (h : SE X true e de) (hg : Gl X "sorted" := by rfl)
    (hsa : starEach [e] X.env = (false, eval e X.env) :: starEach [] X.env := by rfl)
    (he : backTo pos (starEach [e] X.env) = (false, eval e X.env) :: backTo pos (starEach [] X.env) := by rfl) (hpl : (backTo pos (starEach [e] X.env)).any (·.1) = false := by rfl)
    (hall : (backToKw pos (keywordEach [⟨some "reverse", .Constant (.bool true) j kp, kpos⟩] X.env)).all (·.1.isSome) = true := by rfl) (hnone : (backToKw pos (keywordEach [⟨some "reverse", .Constant (.bool true) j kp, kpos⟩] X.env)).any (·.1.isNone) = false := by rfl)
    (hks : (backToKw pos (keywordEach [⟨some "reverse", .Constant (.bool true) j kp, kpos⟩] X.env)).filterMap (·.1) = [Str.ofString "reverse"] := by rfl) :
    SN X (.Call (.Name "sorted" p) [e] [⟨some "reverse", .Constant (.bool true) j kp, kpos⟩] pos) (op1 sortKR de) := (pe_callBK (call_sortKR hc hu) hg hm boot_sorted (sa_cons h sa_nil hsa) (pk_cons pe_bl pk_nil) (by decide) (by decide) he hpl hall hnone hks).weak fun σ H Q ⟨B, O, env, d, r, h1, q⟩ => by
  obtain ⟨x, hx, h2⟩ := bnd h1
  refine ⟨B, O, env, [x], r, by show (de env).bind _ = _; rw [hx]; rfl, fun vs H1 s1 r1 => ?_⟩
  obtain ⟨v, rfl, rx⟩ := reps_one r1
  cases x with
  | dic t ks vs =>
    cases t with
    | false => simp only [sortKR, reduceCtorEq] at h2
    | true =>
      simp only [sortKR] at h2
      obtain ⟨ms, hms, h2⟩ := bnd h2
      split at h2
      · rename_i hl
        cases h2
        obtain ⟨a, kvs, rfl, ha, hh, hks, t⟩ := rep_dicT rx
        have hk : kvs.map (·.1) = ms.map fun m => m.map Sum.inl := tups_rep (mg := X.mg) (by rw [List.map_map]; rw [hks] at hms; exact hms)
        have hne : ∀ m ∈ ms, m ≠ [] := fun m hm => by
          have := List.all_eq_true.mp hl.2 m hm
          intro z; subst z; simp at this
        refine ⟨a, kvs, ms, rfl, rfl, hh, hk, szL_ok hl.1, hne, fun p zs hp hz1 hz2 => ?_⟩
        refine q p _ (s1.trans (same_upd hp)) (Same.free s1 hp) (.lst upd_same ?_)
        rw [← hz1]
        exact (reps_tups zs hz2).same (same_upd hp)
      · cases h2
  | _ => simp only [sortKR, reduceCtorEq] at h2
end
end PV

namespace PV
variable [LT] [RT]
open PySem PySem.Spec PyProof.Rows L2
def seqK : D → Option (List D)
  | .lst xs => some xs
  | .tup xs => some xs
  | .ftup xs => some xs
  | _ => none
def iSq (a : Ex) : Ax := fun e => (a e).bind seqK
theorem _root_.L2.PI.or {X : Cx} {tg e : Expr} {t t' : TI} (h : PI X tg e t) (h' : PI X tg e t') : PI X tg e (fun σ H R => t σ H R ∨ t' σ H R) := ⟨fun pins s σ H R I q => q.elim (h.run pins s σ H R I) (h'.run pins s σ H R I)⟩
end PV

namespace PV
variable [LT] [RT]
open PySem PySem.Spec PyProof.Rows L2
def sortKL : D → Option D
  | .dic true ks _ => (tupsInts ks).bind fun ms => if ms.length ≤ szL ∧ neB ms = true then some (.lst ((ms.mergeSort lexLe).map fun m => .tup (m.map .int))) else none
  | _ => none
section
variable {X : Cx}
theorem call_sortKL (hc : X.calm = true) (hu : X.A.units + 64 < cLine) : CallR X (.builtin "sorted") (fun xs H Q => ∃ (d : Addr) (kvs : List (List Key × V)) (ms : List (List Int)), xs = [V.ref d] ∧ Rd H d (.dT kvs) ∧ kvs.map (·.1) = ms.map (fun m => m.map Sum.inl) ∧ ms.length ≤ sizeLine ∧ (∀ m ∈ ms, m ≠ []) ∧
    ∀ p (zs : List (Addr × List Int)), H p = none → zs.map (·.2) = ms.mergeSort lexLe → (∀ z ∈ zs, H z.1 = some (.tup (z.2.map V.int))) → Q (.ref p) (upd H p (.lst (zs.map fun z => V.ref z.1)))) := by
  intro pins s σ H xs us Q I r ⟨d, kvs, ms, e, hd, hms, hml, hne, q⟩
  subst e
  obtain ⟨u, rfl, rx⟩ := r.one
  cases rx
  obtain ⟨z, hs, ks, pr, o, es, ep, ho, hx, hdt, he, hnd⟩ := (show ObjOk X.prog X.w H s.heap d (.dT kvs) from hd.ok I.hok)
  have l1 : es.size = ks.length := size_of_entries he
  have l2 : kvs.length = ks.length := Paired.length pr
  have l3 : kvs.length = ms.length := by have := congrArg List.length hms; simpa using this
  have hh : X.A.handled = none := I.ok.hd hc
  have hz : ∃ zs : List (Addr × List Int), zs.map (·.2) = ms ∧ zs.map (·.1) = ks.map (fun x => x.2.1) ∧ ∀ z ∈ zs, H z.1 = some (.tup (z.2.map V.int)) := by
    clear q hml hne l1 l2 l3 he hnd hd z
    induction pr generalizing ms with
    | nil =>
      cases ms with
      | nil => exact ⟨[], rfl, rfl, fun z hz => nomatch hz⟩
      | cons a b => cases hms
    | cons h t ih =>
      cases ms with
      | nil => cases hms
      | cons m ms =>
        rw [List.map_cons, List.map_cons] at hms
        injection hms with e1 e2
        obtain ⟨zs, g1, g2, g3⟩ := ih ms e2
        refine ⟨(_, m) :: zs, by rw [List.map_cons, g1], by rw [List.map_cons, List.map_cons, g2], fun z hz => ?_⟩
        rcases List.mem_cons.mp hz with rfl | hz
        · have := h.2.1
          rw [e1, List.map_map] at this
          exact this
        · exact g3 z hz
  obtain ⟨zs, z1, z2, z3⟩ := hz
  refine Calls.call_function_entry kind_sorted plain_sorted entry_sorted (args_sorted1 _) ?_
  unfold Builtin.«sorted»
  refine wpAny_bind (m := checkCount "sorted" 1 1 _) (wpAny_pure ?_)
  refine wpAny_bind (gather (A := X.A.in1) (kdl_raw hs hx hdt) hh ho (by omega) fun h' tk acc hk hgt it => ?_)
  have ea : acc.toList = zs.map fun z => Value.ref z.1 := by
    have e3 : (zs.map fun z => Value.ref z.1) = ks.map fun x => Value.ref x.2.1 := by
      have := congrArg (List.map Value.ref) z2
      rw [List.map_map, List.map_map] at this
      exact this
    rw [e3]
    have hl : acc.toList.length = ks.length := by rw [Array.length_toList, it.1]; exact l1
    apply List.ext_getElem?
    intro j
    rw [List.getElem?_map]
    cases hj : acc.toList[j]? with
    | none =>
      have g := List.getElem?_eq_none_iff.mp hj
      rw [List.getElem?_eq_none (by omega), Option.map_none]
    | some v =>
      obtain ⟨en, hen, hv⟩ := it.2 j v (by rw [← Array.getElem?_toList]; exact hj)
      have qe := entry_at he j
      rw [hen] at qe
      cases hb : ks[j]? with
      | none => rw [hb] at qe; cases qe
      | some b =>
        rw [hb] at qe
        cases qe
        rw [hv]; rfl
  have hlen : acc.toList.length = zs.length := by rw [ea, List.length_map]
  have zl : zs.length = ms.length := by rw [← z1, List.length_map]
  have lsz : acc.toList.length ≤ sizeLine := by omega
  refine wpAny_bind (wpAny_newList ?_ lsz)
  have hoL : (h'.push (seqObj "list" acc.toList.toArray 0)).get? h'.objs.size = some (seqObj "list" acc.toList.toArray 0) := Heap.get?_push_size _ rfl
  have kb : ∀ b o, s.heap.get? b = some o → (h'.push (seqObj "list" acc.toList.toArray 0)).get? b = some o := fun b o e => Heap.get?_push_of_some _ (hk b o e)
  have hlt := Nat.le_of_lt hgt
  show wpAny _ _ _ _ _ { s with heap := h'.push (seqObj "list" acc.toList.toArray 0), toks := tk }
  have kk : ∀ z ∈ zs, intsH H (.ref z.1) = z.2 := fun z hz => intsH_of (z3 z hz)
  have keyok : ∀ g : Heap, (∀ b o, b ≠ h'.objs.size → (h'.push (seqObj "list" acc.toList.toArray 0)).get? b = some o → g.get? b = some o) → KeyOk g (fun v => intP (intsH H v)) acc.toList := fun g hg v hv => by
    rw [ea] at hv
    obtain ⟨z, hz, rfl⟩ := List.mem_map.mp hv
    obtain ⟨_, its, rv, ot, hot, hct, nt, hdt⟩ := (show ObjOk X.prog X.w H s.heap z.1 (.tup (z.2.map V.int)) from I.hok z.1 _ (z3 z hz))
    have hne2 : z.2 ≠ [] := hne _ (by rw [← z1]; exact List.mem_map.mpr ⟨z, hz, rfl⟩)
    obtain ⟨as, ra⟩ := readsAll_ints (h := g) rv.ints
    show ∃ as n r, Reads g (.ref z.1) (intP (intsH H (.ref z.1))) as ∧ intP (intsH H (.ref z.1)) = .tuple (.int n :: r)
    rw [kk z hz]
    obtain ⟨n, m', hm⟩ := List.exists_cons_of_ne_nil hne2
    refine ⟨_, n, m'.map PyData.int, .tuple (hg _ _ (Nat.ne_of_lt (Heap.lt_size (hk _ _ hot))) (kb _ _ hot)) hct hdt ra, by rw [hm]; rfl⟩
  have sb : 2 ≤ acc.toList.length → SrtO.SortableO X.prog X.w X.A.in1.in1 { s with heap := h'.push (seqObj "list" acc.toList.toArray 0), toks := tk } h'.objs.size acc.toList (fun v u => PySem.W.dataLt (intP (intsH H v)) (intP (intsH H u))) := fun h2 =>
    data_sortable (k := fun v => intP (intsH H v)) (by omega) keyok (fun v _ u _ => (dataLt_ints _ _).1) fun v _ u _ => by
      have d1 := depth_ints (intsH H v)
      have ua : X.A.in1.in1.units = X.A.units + 2 := rfl
      omega
  refine wpAny_bind (wpAny_holding (wpAny_call_entry slot_list_sort ⟨_, hoL, rfl⟩ entry_list_sort (SrtO.list_sort_ord (data_swo fun v => intP (intsH H v)) hoL lsz sb fun out o1 o2 => ⟨_, rfl, ?_⟩) (args_list_sort _)))
  refine wpAny_pure ⟨_, rfl, ?_⟩
  have pm : out.Perm acc.toList := o2.perm
  obtain ⟨ws, w1, w2⟩ := perm_lift (fun z : Addr × List Int => Value.ref z.1) pm zs ea.symm
  have hws : ∀ z ∈ ws, z ∈ zs := fun z hz => w1.mem_iff.mp hz
  have hsort : ws.map (·.2) = ms.mergeSort lexLe := by
    refine (srt_eq ?_ ?_).symm
    · rw [← z1]; exact w1.map _
    · rw [← w2, SrtO.Srtd, List.pairwise_map] at o1
      rw [List.pairwise_map]
      refine List.Pairwise.imp_of_mem (fun {x y} hx hy h => ?_) o1
      have h2 := h
      rw [kk x (hws x hx), kk y (hws y hy), (dataLt_ints _ _).2] at h2
      simpa using h2
  obtain ⟨eF, heF⟩ := PyProof.Rows.sortedHeap_at (vs := acc.toList) (out := out.toArray) hoL
  have kS : ∀ b o, s.heap.get? b = some o → (sortedHeap (h'.push (seqObj "list" acc.toList.toArray 0)) h'.objs.size acc.toList out.toArray).get? b = some o := fun b o e =>
    (PyProof.Rows.sortedHeap_old (Nat.ne_of_lt (Heap.lt_size (hk b o e))) (Heap.lt_size (kb b o e))).trans (kb b o e)
  refine ⟨.ref h'.objs.size, upd H h'.objs.size (.lst (ws.map fun z => V.ref z.1)), I.laid (t' := tk) kS hlt ⟨?_, out, eF, ?_, heF⟩, rfl, q _ ws (I.hok.fresh hlt) (hsort) fun z hz => z3 z (hws z (hz))⟩
  · rw [List.length_map, w1.length_eq, zl]; exact hml
  · rw [← w2]
    clear w2 w1 hws hsort
    induction ws with
    | nil => exact .nil
    | cons a b ih => exact .cons rfl ih
theorem sn_sortKL {e : Expr} {de : Ex} {p pos : Pos} (hc : X.calm = true) (hu : X.A.units + 64 < cLine) (hm : X.mg "sorted" = none) (h : SE X true e de) (hg : Gl X "sorted" := by rfl) (he : starEach [e] X.env = (false, eval e X.env) :: starEach [] X.env := by rfl) (hpl : (backTo pos (starEach [] X.env)).any (·.1) = false := by rfl) : SN X (.Call (.Name "sorted" p) [e] [] pos) (op1 sortKL de) := (pe_callB (call_sortKL hc hu) hg hm boot_sorted (sa_cons h sa_nil he) (by decide) (by decide) he hpl).weak fun σ H Q ⟨B, O, env, d, r, h1, q⟩ => by
  obtain ⟨x, hx, h2⟩ := bnd h1
  refine ⟨B, O, env, [x], r, by show (de env).bind _ = _; rw [hx]; rfl, fun vs H1 s1 r1 => ?_⟩
  obtain ⟨v, rfl, rx⟩ := reps_one r1
  cases x with
  | dic t ks vs =>
    cases t with
    | false => simp only [sortKL, reduceCtorEq] at h2
    | true =>
      simp only [sortKL] at h2
      obtain ⟨ms, hms, h2⟩ := bnd h2
      split at h2
      · rename_i hl
        cases h2
        obtain ⟨a, kvs, rfl, ha, hh, hks, t⟩ := rep_dicT rx
        have hk : kvs.map (·.1) = ms.map fun m => m.map Sum.inl := tups_rep (mg := X.mg) (by rw [List.map_map]; rw [hks] at hms; exact hms)
        have hne : ∀ m ∈ ms, m ≠ [] := fun m hm => by
          have := List.all_eq_true.mp hl.2 m hm
          intro z; subst z; simp at this
        refine ⟨a, kvs, ms, rfl, hh, hk, szL_ok hl.1, hne, fun p zs hp hz1 hz2 => ?_⟩
        refine q p _ (s1.trans (same_upd hp)) (Same.free s1 hp) (.lst upd_same ?_)
        rw [← hz1]
        exact (reps_tups zs hz2).same (same_upd hp)
      · cases h2
  | _ => simp only [sortKL, reduceCtorEq] at h2
end
end PV

namespace PV
variable [LT] [RT]
open PySem PySem.Spec PyProof.Rows L2
def ftupD : D → Option D
  | .lst xs => some (.ftup xs)
  | _ => none
def ftupE (a : Ax) : Ex := fun e => (a e).bind fun xs => if xs.length ≤ szL then some (.ftup xs) else none
def dcRows : List D → List D → List D → Option (List D × List D)
  | [], ks, vs => some (ks, vs)
  | .tup [k, v] :: rs, ks, vs => if keyD true k = true then dcRows rs (dput ks vs k v).1 (dput ks vs k v).2 else none
  | _ :: _, _, _ => none
section
variable {X : Cx} {τ : Bool}
def kFt (K : PySem.W.Frag) (x : V) (H : Hp) (Q : VK) : Prop := ∃ p xs, x = .ref p ∧ SqL K H p xs ∧ ∀ q o, H q = none → o.dict = none → Q (.ref q) (upd H q (.frz o (.tup xs)))
theorem rl_ft (pins : List (Addr × Obj)) (s : Shared) (σ : L2.St) (H : Hp) (x : V) (v : Value) (Q : VK) (I : Inv X pins σ H s) (r : RelV x v) (h : kFt X.K x H Q) :
    wpAny (model X.prog X.w) X.A (call (.type "tuple") [v]) (EP X pins σ Q) X.xe s := by
  obtain ⟨p, xs, rfl, hs, q⟩ := h
  obtain rfl : v = .ref p := r
  obtain ⟨its, rv, pl, hz⟩ := I.list hs
  refine call_tuple_list pl.isList (fun h' hk => ?_) (by rw [List.size_toArray, ← rv.length]; exact hz)
  have I1 : Inv X pins σ H { s with heap := h' } := I.kept (t' := s.toks) hk
  have I2 : Inv X pins σ (upd H h'.objs.size (.frz { cls := .type "tuple", data := .seq its.toArray } (.tup xs))) { s with heap := h'.push { cls := .type "tuple", data := .seq its.toArray } } :=
    I1.laid (t' := s.toks) (fun b o e => Heap.get?_push_of_some _ e) (Nat.le_refl _) ⟨Heap.get?_push_size _ rfl, hz, its, rv, IsTup.new _ _⟩
  exact ⟨.ref h'.objs.size, _, I2, rfl, q _ _ (I1.hok.fresh (Nat.le_refl _)) rfl⟩
theorem pe_ftupleOf {a : Expr} {ta : TE} {p pos : Pos} (hg : Gl X "tuple") (hm : X.mg "tuple" = none) (ha : PE X a ta) (na : starEach [a] X.env = (false, eval a X.env) :: starEach [] X.env := by rfl) :
    PE X (.Call (.Name "tuple" p) [a] [] pos) (tThen ta (kFt X.K)) := by
  refine ⟨fun pins s σ H Q I h => ?_⟩
  exact Call_ (ld_blt I hg hm boot_tuple (PyProof.Rows.callWith_type1 (one_arg ha I h (fun v s2 x H2 I2 r q => rl_ft pins s2 σ H2 x v Q I2 r q) na) na))
theorem se_ftuple {e : Expr} {de : Ex} {p pos : Pos} (hm : X.mg "tuple" = none) (h : SE X τ e de) (hg : Gl X "tuple" := by rfl) (na : starEach [e] X.env = (false, eval e X.env) :: starEach [] X.env := by rfl) : SE X τ (.Call (.Name "tuple" p) [e] [] pos) (op1 ftupD de) := (pe_ftupleOf hg hm h na).weak fun σ H Q ⟨B, O, env, d, r, h1, q⟩ => by
  obtain ⟨x, hx, h2⟩ := bnd h1
  refine ⟨B, O, env, x, r, hx, fun v H1 s1 r1 => ?_⟩
  cases r1 <;> simp only [ftupD, reduceCtorEq] at h2
  rename_i a xs ds ha h t
  cases h2
  exact ⟨a, xs, rfl, .inl (.inl h), fun p o hp hd => q _ _ (s1.trans (same_upd hp)) (.ftup upd_same hd (t.same (same_upd hp)))⟩
abbrev Rw := Addr × Addr × List Key × V
def putAll (kvs : List (List Key × V)) (ts : List Rw) : List (List Key × V) := ts.foldl (fun kvs t => putK kvs t.2.2.1 t.2.2.2) kvs
theorem Paired.get {α β : Type} {F : α → β → Prop} : ∀ {l : List α} {m : List β} {i : Nat} {b : β}, Paired F l m → m[i]? = some b → ∃ a, l[i]? = some a ∧ F a b
  | _, _, _, _, .nil, e => by simp at e
  | _, _, 0, _, .cons h _, e => by simp at e; subst e; exact ⟨_, rfl, h⟩
  | _, _, i + 1, _, .cons _ t, e => by
    obtain ⟨a, h1, h2⟩ := Paired.get (i := i) t (by simpa using e)
    exact ⟨a, by simpa using h1, h2⟩
end
end PV

namespace PV
variable [LT] [RT]
open PySem PySem.Spec PyProof.Rows L2
def zipM : List D → Option (List D)
  | [.tup xs, .lst ys] => some ((xs.zip ys).map fun p => .tup [p.1, p.2])
  | _ => none
def iZm (a : Ax) : Ax := fun e => (a e).bind zipM
structure ZmSep (z TI TO i1 i2 a b : Addr) : Prop where
  all : TI ≠ z ∧ TO ≠ z ∧ TI ≠ TO ∧ TI ≠ i1 ∧ TI ≠ i2 ∧ i1 ≠ z ∧ i2 ≠ z ∧ i1 ≠ TO ∧ i2 ≠ TO ∧ i1 ≠ i2 ∧ a ≠ z ∧ a ≠ TO ∧ a ≠ i1 ∧ a ≠ i2 ∧ b ≠ z ∧ b ≠ TO ∧ b ≠ i1 ∧ b ≠ i2
end PV

namespace PV
variable [LT] [RT]
open PySem PySem.Spec PyProof.Rows L2
def addI : D → D → Option D
  | .int a, .int b => some (.int (a + b))
  | _, _ => none
def subI : D → D → Option D
  | .int a, .int b => some (.int (a - b))
  | _, _ => none
def zipDc : List D → Option D
  | [.lst xs, .lst ys] => if xs.length ≤ szL then (dcRows ((xs.zip ys).map fun p => .tup [p.1, p.2]) [] []).map fun r => .dic true r.1 r.2 else none
  | _ => none
section
variable {X : Cx} {τ : Bool}
theorem s_augAdd {i : Nat} {x : Str} {e : Expr} {de : Ex} {pos pos' : Pos} (hN : X.N.Nodup) (he : SE X true e de) (hi : X.N[i]? = some x := by rfl) (hx : Loc X.env.scope x := by first | exact Or.inl rfl | exact Or.inr rfl) (hf : X.fn x = true ∨ X.env.scope.names.lookup x = some .local := by first | exact .inl rfl | exact .inr rfl | assumption) :
    SS X (.AugAssign (.Name x pos') .Add e pos) (setE i (op2 addI (var i) de)) := (ps_aug hN hi hx he ip_add hf).weak fun D σ H ⟨B, O, env, r, rl, h1, q⟩ => by
  obtain ⟨d, hd, h2⟩ := bnd h1
  cases h2
  obtain ⟨x0, hx0, hd⟩ := bnd hd
  obtain ⟨y0, hy0, hd⟩ := bnd hd
  have hv : env[i]? = some (.val x0) := by
    unfold var at hx0
    split at hx0
    · cases hx0; assumption
    · cases hx0
  obtain ⟨v, h3, rv⟩ := rl.vals i x0 hv
  cases rv <;> simp only [addI, reduceCtorEq] at hd
  cases y0 <;> simp only [addI, reduceCtorEq] at hd
  cases hd
  refine ⟨_, h3, B, O, env, _, rl, hy0, fun v H1 s r1 => ?_⟩
  cases r1
  exact ⟨_, _, rfl, rfl, q _ H1 _ (ERel.set (rl.heap s) (.int _)) ((Fm.of_same s).trans (Fm.of_same (Same.refl H1)).off)⟩
def KeysOk (H : Hp) (ts : List Rw) : Prop := ∀ t ∈ ts, H t.2.1 = some (.tup (t.2.2.1.map kV))
def PrOf (t : Rw) (q : List Key × Addr × Value) : Prop := t.2.2.1 = q.1 ∧ t.2.1 = q.2.1 ∧ RelV t.2.2.2 q.2.2
theorem kt_keys {H : Hp} : ∀ {ts : List Rw} {prs : List (List Key × Addr × Value)} {kvs : List (List Key × V)} {xs : List (List Key × Addr × Value)}, Paired PrOf ts prs → KeysOk H ts → KT H kvs xs → KT H (putAll kvs ts) (storedAllH xs prs)
  | _, _, _, _, .nil, _, r => r
  | _, _, kvs, xs, .cons (a := t) (b := q) ⟨e1, e2, e3⟩ p, hr, r => by
    have h2 := hr t List.mem_cons_self
    refine kt_keys (kvs := putK kvs t.2.2.1 t.2.2.2) (xs := storedH xs q.1 q.2.1 q.2.2) p (fun z hz => hr z (List.mem_cons_of_mem _ hz)) ?_
    rw [← e1, ← e2]
    exact r.put _ h2 e3
theorem zip_prs : ∀ {xs ys : List V} {us ws : List Value} {ts : List Rw}, Vals xs us → Vals ys ws → xs.zip ys = ts.map (fun t => (V.ref t.2.1, t.2.2.2)) → ∃ prs, Paired PrOf ts prs ∧ us.zip ws = prs.map fun q => (Value.ref q.2.1, q.2.2)
  | [], _, _, _, [], .nil, _, _ => ⟨[], .nil, rfl⟩
  | [], _, _, _, t :: ts, .nil, _, e => by simp at e
  | x :: xs, [], _, _, [], .cons _ _, .nil, _ => ⟨[], .nil, rfl⟩
  | x :: xs, [], _, _, t :: ts, .cons _ _, .nil, e => by simp at e
  | x :: xs, y :: ys, _, _, [], .cons _ _, .cons _ _, e => by simp at e
  | x :: xs, y :: ys, _, _, t :: ts, .cons (b := u) hx tx, .cons (b := w) hy ty, e => by
    rw [List.zip_cons_cons, List.map_cons] at e
    obtain ⟨e1, e2⟩ := List.cons.inj e
    obtain ⟨prs, p1, p2⟩ := zip_prs tx ty e2
    obtain ⟨ex, ey⟩ := Prod.mk.inj e1
    subst ex ey
    cases (show u = Value.ref t.2.1 from hx)
    exact ⟨(t.2.2.1, t.2.1, w) :: prs, .cons ⟨rfl, rfl, hy⟩ p1, by rw [List.zip_cons_cons, p2]; rfl⟩
def tDz (K : PySem.W.Frag) (ta : TA) : TE := fun σ H Q => ta σ H fun vs H1 => ∃ a b xs ys, ∃ ts : List Rw, vs = [.ref a, .ref b] ∧ (SqL K H1 a xs ∧ SqL K H1 b ys) ∧ xs.zip ys = ts.map (fun t => (V.ref t.2.1, t.2.2.2)) ∧ KeysOk H1 ts ∧ ∀ p, H1 p = none → Q (.ref p) (upd H1 p (.dT (putAll [] ts)))
theorem pe_dictZip {e1 e2 : Expr} {ta : TA} {p p2 pos pos2 : Pos} (hc : X.calm = true) (hu : X.A.units + 3 < cLine) (hm : X.mg "dict" = none) (hm2 : X.mg "zip" = none) (ha : PA X [e1, e2] ta) (hg : Gl X "dict") (hg2 : Gl X "zip")
    (na : starEach [.Call (.Name "zip" p2) [e1, e2] [] pos2] X.env = (false, eval (.Call (.Name "zip" p2) [e1, e2] [] pos2) X.env) :: starEach [] X.env) (hs : starEach [e1, e2] X.env = (false, eval e1 X.env) :: starEach [e2] X.env) (hpl : (backTo pos2 (starEach [e2] X.env)).any (·.1) = false) :
    PE X (.Call (.Name "dict" p) [.Call (.Name "zip" p2) [e1, e2] [] pos2] [] pos) (tDz X.K ta) := ⟨fun pins s σ H Q I h => by
  refine Call_ (ld_blt I hg hm boot_dict (PyProof.Rows.callWith_type1 (args_cons ?_ na) na))
  refine Call_ (ld_blt I hg2 hm2 PyProof.Rows.boot_zip (PyProof.Rows.callWith_type1 (thn (ha.run pos2 pins s σ H _ I h) fun us s1 ⟨vs, H1, I1, r1, a, b, xs, ys, ts, ex, ⟨qx, qy⟩, hz, hk, q⟩ => ?_) hs hpl))
  subst ex
  obtain ⟨w1, w2, ew, rx, ry⟩ := vals2 r1
  subst ew
  cases rx
  cases ry
  obtain ⟨itu, ru, pu, zu⟩ := I1.list qx
  obtain ⟨itv, rv, pv, zv⟩ := I1.list qy
  obtain ⟨prs, pp, pz⟩ := zip_prs ru rv hz
  refine call_zip_2 pu.isList pv.isList fun h' kz kI kO k1 k2 hsz hkp => args_nil ?_
  have hsz : h'.objs.size = s1.heap.objs.size + 5 := hsz
  have l5 : s1.heap.objs.size ≤ h'.objs.size := by rw [hsz]; exact Nat.le_add_right _ _
  have hlen : prs.length = min itu.toArray.size itv.toArray.size := by
    have := congrArg List.length pz
    rw [List.length_zip, List.length_map] at this
    simp [this]
  have wr : ∀ c o, s1.heap.get? c = some o → c ∉ [s1.heap.objs.size + 4, s1.heap.objs.size + 3, s1.heap.objs.size, s1.heap.objs.size + 1] := fun c o e hm => by
    have hlt := Heap.lt_size e
    have hle : s1.heap.objs.size ≤ c := by
      have cs : c = s1.heap.objs.size + 4 ∨ c = s1.heap.objs.size + 3 ∨ c = s1.heap.objs.size ∨ c = s1.heap.objs.size + 1 := by simpa using hm
      rcases cs with rfl | rfl | rfl | rfl
      · exact Nat.le_add_right _ _
      · exact Nat.le_add_right _ _
      · exact Nat.le_refl _
      · exact Nat.le_add_right _ _
    exact absurd (Nat.lt_of_lt_of_le hlt hle) (Nat.lt_irrefl _)
  refine call_dict_pairsH (s := { s1 with heap := h' }) (knd := tupleKind (mixKind X.prog X.w)) (ps := prs) (PairArg.zip _ _ _ _ _ a b (PySem.W.ktu_apart s1.heap.objs.size a b pu.lt pv.lt) itu.toArray itv.toArray) (I1.ok.hd hc) (by show X.A.units + 1 + 1 < cLine; omega) ⟨kz, kI, ⟨_, _, kO⟩, k1, k2, pu.isList.at fun o e => hkp _ o e, pv.isList.at fun o e => hkp _ o e⟩ ⟨hlen, ?_⟩ ?_ ?_ fun h2 tk hd' hk2 => ?_
  · intro i key v ⟨f1, f2⟩
    have g : (itu.zip itv)[i]? = some (key, v) := List.getElem?_zip_eq_some.mpr ⟨by simpa using f1, by simpa using f2⟩
    rw [pz, List.getElem?_map] at g
    obtain ⟨q0, hq, e⟩ := Option.map_eq_some_iff.mp g
    cases e
    exact ⟨q0.1, q0.2.1, hq, rfl⟩
  · intro h2 hk2 x hx
    obtain ⟨i, hi⟩ := List.mem_iff_getElem?.mp hx
    obtain ⟨t, g1, g2, g3, _⟩ := Paired.get pp hi
    have := key_of (P := X.prog) (w := X.w) I1.hok (hk t (List.mem_of_getElem? g1))
    rw [g2, g3] at this
    refine tupleKind_stays.stays (fun c o us n e _ => hk2 c o (fun z => ?_) (wr c o e) (hkp c o e)) this
    have hlt := Heap.lt_size (hkp c o e)
    rw [z] at hlt
    exact absurd hlt (Nat.lt_irrefl _)
  · rw [← hlen]
    have := congrArg List.length pz
    rw [List.length_zip, List.length_map] at this
    rw [← this, ← ru.length]
    exact Nat.le_trans (Nat.min_le_left _ _) zu
  · obtain ⟨od, es, ep, g1, g2, g3, g4, _, g5⟩ := hd'
    have hfree : H1 h'.objs.size = none := I1.hok.fresh l5
    have hm : (h'.objs.size == sysModules) = false := beq_eq_false_iff_ne.mpr (Nat.ne_of_gt (Nat.lt_of_lt_of_le I1.big l5))
    have kt : KT (upd H1 h'.objs.size (.dT (putAll [] ts))) (putAll [] ts) (storedAllH [] prs) := (kt_keys (H := H1) pp hk .nil).keeps fun b ys e => by rw [upd_ne (ne_of_none e hfree)]; exact e
    have hl2 : (putAll [] ts).length ≤ sizeLine := by
      rw [Paired.length kt]
      refine Nat.le_trans (storedAllH_length prs []) ?_
      have := congrArg List.length pz
      rw [List.length_zip, List.length_map] at this
      rw [List.length_nil, Nat.zero_add, ← this, ← ru.length]
      exact Nat.le_trans (Nat.min_le_left _ _) zu
    exact ⟨.ref h'.objs.size, _, I1.laid (t' := tk) (o := .dT (putAll [] ts)) (fun c o e => hk2 c o (wr c o e) (hkp c o e)) l5 ⟨hl2, hm, _, kt, od, es, ep, g1, g2, g3, g4, g5⟩, rfl, q _ hfree⟩⟩
theorem zrows_of {mg : Str → Option Value} {A : Addr → Prop} {H : Hp} : ∀ {xs ys : List D} {us ws : List V} {kvs : List (List Key × V)} {vs : List D} {r : List D × List D}, Reps mg A H us xs → Reps mg A H ws ys → Reps mg A H (kvs.map (·.2)) vs → dcRows ((xs.zip ys).map fun p => D.tup [p.1, p.2]) (kvs.map fun p => .tup (p.1.map kD)) vs = some r →
    ∃ ts : List Rw, us.zip ws = ts.map (fun t => (V.ref t.2.1, t.2.2.2)) ∧ KeysOk H ts ∧ r.1 = (putAll kvs ts).map (fun p => D.tup (p.1.map kD)) ∧ Reps mg A H ((putAll kvs ts).map (·.2)) r.2
  | [], ys, _, _, kvs, vs, r, .nil, _, rv, e => by
    simp only [List.zip_nil_left, List.map_nil, dcRows] at e
    cases e
    exact ⟨[], by simp, (fun _ h => nomatch h), rfl, rv⟩
  | x :: xs, [], _, _, kvs, vs, r, .cons _ _, .nil, rv, e => by
    simp only [List.zip_nil_right, List.map_nil, dcRows] at e
    cases e
    exact ⟨[], by simp, (fun _ h => nomatch h), rfl, rv⟩
  | x :: xs, y :: ys, _, _, kvs, vs, r, .cons rk t, .cons rw t2, rv, e => by
    rw [List.zip_cons_cons, List.map_cons] at e
    unfold dcRows at e
    split at e
    · rename_i hk
      obtain ⟨ks, b, rfl, hb, ex⟩ := keyT_rep rk hk
      have ex : x = D.tup (ks.map kD) := ex
      subst ex
      obtain ⟨z1, z2⟩ := dput_put (f := fun ks : List Key => D.tup (ks.map kD)) eqv_kT (k := ks) rw rv
      rw [← z1] at e
      obtain ⟨ts, e1, e2, e3, e4⟩ := zrows_of t t2 z2 e
      refine ⟨(b, b, ks, _) :: ts, by rw [List.zip_cons_cons, e1]; rfl, fun y hy => ?_, e3, e4⟩
      rcases List.mem_cons.mp hy with rfl | hy
      · exact hb
      · exact e2 y hy
    · cases e
theorem sn_dictZip {e1 e2 : Expr} {da : Ax} {p p2 pos pos2 : Pos} (hc : X.calm = true) (hu : X.A.units + 64 < cLine) (hm : X.mg "dict" = none) (hm2 : X.mg "zip" = none) (ha : SA X false [e1, e2] da) (hg : Gl X "dict" := by rfl) (hg2 : Gl X "zip" := by rfl)
    (na : starEach [.Call (.Name "zip" p2) [e1, e2] [] pos2] X.env = (false, eval (.Call (.Name "zip" p2) [e1, e2] [] pos2) X.env) :: starEach [] X.env := by rfl) (hs : starEach [e1, e2] X.env = (false, eval e1 X.env) :: starEach [e2] X.env := by rfl) (hpl : (backTo pos2 (starEach [e2] X.env)).any (·.1) = false := by rfl) :
    SN X (.Call (.Name "dict" p) [.Call (.Name "zip" p2) [e1, e2] [] pos2] [] pos) (cal zipDc da) := (pe_dictZip hc (by omega) hm hm2 ha hg hg2 na hs hpl).weak fun σ H Q ⟨B, O, env, d, r, h1, q⟩ => by
  obtain ⟨x, hx, h2⟩ := bnd h1
  refine ⟨B, O, env, x, r, hx, fun vs H1 s1 r1 => ?_⟩
  unfold zipDc at h2
  split at h2
  · rename_i xs ys
    split at h2
    · rename_i hz
      obtain ⟨rr, hr, h3⟩ := Option.map_eq_some_iff.mp h2
      subst h3
      obtain ⟨v, w, rfl, r2, r3⟩ := reps_pair r1
      obtain ⟨a, us, rfl, ha, hA, ta⟩ := r2.lst_inv
      obtain ⟨b, ws, rfl, hb, hB, tb⟩ := r3.lst_inv
      obtain ⟨ts, e1, e2, e3, e4⟩ := zrows_of (kvs := []) (vs := []) ta tb .nil hr
      refine ⟨a, b, us, ws, ts, rfl, ⟨.inl (.inl hA), .inl (.inl hB)⟩, e1, e2, fun p hp => q p _ (s1.trans (same_upd hp)) (Same.free s1 hp) ?_⟩
      rw [e3]
      exact .dicT upd_same ((Reps.ne hp e4).same (same_upd hp))
    · cases h2
  · cases h2
end
end PV

namespace PV
variable [LT] [RT]
open PySem PySem.Spec PyProof.Rows L2
def isLst : D → Option D
  | .lst _ => some (.bl true)
  | _ => none
end PV

namespace PV
variable [LT] [RT]
open PySem PySem.Spec PyProof.Rows L2
def isC (c : Str) : D → Option D
  | .ins c' _ _ => if c' = c then some (.bl true) else none
  | _ => none
def isiB (x : Str) (K : PySem.W.Frag) : Bool := He.eqO (PySem.W.findIn K (.ref (He.ga K x)) "__class__") (some (some (.builtin "object.__class__"))) && (He.eqO (PySem.W.specialIn K (.builtin "object.__class__") "__get__") (some (some (.builtin "getset_descriptor.__get__"))) && (decide (PySem.W.takesIn K (.builtin "object.__class__") = some true) && decide (PySem.W.mroIn K (He.ga K x) (.type "object") = some true)))
section
variable {X : Cx} {τ : Bool}
theorem se_isC {e : Expr} {de : Ex} {c : Str} {p p2 pos : Pos} (hm : X.mg "isinstance" = none) (hgl : X.mg c = some (.ref (He.ga X.K c))) (hcl : Cls X.K (He.ga X.K c)) (hi : isiB c X.K = true) (h : SE X true e de) (hg : Gl X "isinstance" := by rfl) (hg2 : Gl X c := by rfl) (n1 : starEach [e, .Name c p2] X.env = (false, eval e X.env) :: starEach [.Name c p2] X.env := by rfl) (n2 : starEach [.Name c p2] X.env = (false, eval (.Name c p2) X.env) :: starEach [] X.env := by rfl) (hpl : (backTo pos (starEach [.Name c p2] X.env)).any (·.1) = false := by rfl) (hd : (c == ("__debug__" : Str)) = false := by decide) : SE X τ (.Call (.Name "isinstance" p) [e, .Name c p2] [] pos) (op1 (isC c) de) :=
  (pe_callB call_isi hg hm boot_isinstance (pa_cons h (pa_cons (pe_glob (v := .ref (He.ga X.K c)) hg2 hgl rfl hd) pa_nil n2) n1) (by decide) (by decide) n1 hpl).weak fun σ H Q ⟨B, O, env, d, r, h1, q⟩ => by
  obtain ⟨x, hx, h2⟩ := bnd h1
  refine ⟨B, O, env, x, r, hx, fun v H1 s1 r1 => ?_⟩
  cases x <;> simp only [isC, reduceCtorEq] at h2
  split at h2
  · rename_i hc
    cases h2
    subst hc
    cases r1
    rename_i a C dx fs ha hH hmg rs
    rw [hgl] at hmg
    cases hmg
    unfold isiB at hi
    simp only [Bool.and_eq_true, decide_eq_true_eq] at hi
    obtain ⟨i1, i2, i3, i4⟩ := hi
    exact ⟨_, _, .ref (He.ga X.K _), .ref (He.ga X.K _), true, rfl, .own _, .base (.ins hH hcl (He.eqO_ok i1) (He.eqO_ok i2) i3 i4), if_pos (beq_self_eq_true _), q _ H1 s1 (.bl _)⟩
  · cases h2
end
section
variable {fa : List He.Fa} {fn : List He.DefD} {ex : List (PySem.W.Frag → Bool)} {K : PySem.W.Frag} {mg : Str → Option Value} (Z : ZF fa fn ex K mg)
include Z
theorem ZF.clsK (j : Nat) {c : Str} (h2 : fa[j]? = some (.cls c) := by rfl) : Cls K (He.ga K c) := He.cls_ok (Z.says.fact j h2)
end
end PV

namespace PV
variable [LT] [RT]
open PySem PySem.Spec PyProof.Rows L2
end PV

namespace PV
variable [LT] [RT]
open PySem PySem.Spec PyProof.Rows L2
end PV

namespace PV
variable [LT] [RT]
open PySem PySem.Spec PyProof.Rows L2
end PV

namespace PV
variable [LT] [RT]
open PySem PySem.Spec PyProof.Rows L2
def LamAt (X : Cx) : Prop := ∃ c P, LamX.TabB X.base X.mg c P ∧ X.env.code = .ref c ∧ (P, X.env.qual ++ "<lambda>") ∈ LT.T ∧ ∀ p ∈ LT.T, p.1 = P → p.2 = X.env.qual ++ "<lambda>"
structure LamP (sc scope : Scope) (ps : List Str) : Prop where
  kind : scope.kind = .function
  co : scope.isCoroutine = false
  gen : scope.isGenerator = false
  own : ∀ y ∈ scope.names, y.2 ≠ .cell
  loc : ∀ y ∈ scope.names, y.2 = .local → y.1 ∈ ps
  par : ∀ x ∈ ps, scope.names.lookup x = some .local
  free : ∀ y ∈ scope.names, y.2 = .free → sc.names.lookup y.1 = some .cell ∨ sc.names.lookup y.1 = some .free
theorem LamP.has {X : Cx} {scope : Scope} {ps : List Str} (L : LamP X.env.scope scope ps) (ok : X.Ok) (y : Str × NameKind) (hy : y ∈ scope.names) (e : y.2 = .free) : ∃ c, X.env.cells.lookup y.1 = some c :=
  (L.free y hy e).elim (fun k => ok.has _ (.inl k)) fun k => ok.has _ (.inr k)
end PV

namespace PV
variable [LT] [RT]
open PySem PySem.Spec PyProof.Rows L2
end PV

namespace PV
variable [LT] [RT]
open PySem PySem.Spec PyProof.Rows L2
def valS : DSlot → DSlot
  | .val d => .val d
  | _ => .no
def vals (e : DEnv) : DEnv := e.map valS
section
variable {X : Cx} {pins : List (Addr × Obj)} {σ : L2.St} {H : Hp} {s : Shared} {B : Bs} {O : Nat → Option Addr} {env : DEnv}
theorem nodup_get {α : Type} : ∀ {l : List α} {i j : Nat} {x : α}, l.Nodup → l[i]? = some x → l[j]? = some x → i = j := fun {l i j x} nd h1 h2 => by
  obtain ⟨a1, b1⟩ := List.getElem?_eq_some_iff.mp h1
  obtain ⟨a2, b2⟩ := List.getElem?_eq_some_iff.mp h2
  rcases Nat.lt_trichotomy i j with h | h | h
  · exact absurd (b1.trans b2.symm) (List.pairwise_iff_getElem.mp nd i j a1 a2 h)
  · exact h
  · exact absurd (b2.trans b1.symm) (List.pairwise_iff_getElem.mp nd j i a2 a1 h)
end
end PV

namespace PV
variable [LT] [RT]
open PySem PySem.Spec PyProof.Rows L2

section
variable {X : Cx} {pins : List (Addr × Obj)} {σ : L2.St} {H : Hp} {s : Shared}
structure MaxJ (X : Cx) (pins : List (Addr × Obj)) (σ : L2.St) (H : Hp) (f : Addr) (fo : Obj) (S I0 : Addr) (H' : Hp) (s : Shared) : Prop where
  inv : Inv X pins σ H' s
  sm : Same H H'
  nS : H' S = none
  nI : H' I0 = none
  nf : H' f = none
  gf : s.heap.get? f = some fo
theorem MaxJ.call {f S I0 : Addr} {fo oS oI : Obj} {H' : Hp} {s0 s s' : Shared} {H0 : Hp} {Q : VK} {u : Value} (I : Inv X pins σ H0 s0) (hS : s0.heap.objs.size ≤ S) (hI : s0.heap.objs.size ≤ I0) (fs : f ∉ frs X.stack) (j : MaxJ X pins σ H f fo S I0 H' s) (gS : s.heap.get? S = some oS) (gI : s.heap.get? I0 = some oI)
    (c : CE X.stack X.prog X.w H' s (fun w H2 => Same H' H2 ∧ Q w H2) u s') : ∃ w H2, MaxJ X pins σ H f fo S I0 H2 s' ∧ Same H' H2 ∧ RelV w u ∧ Q w H2 ∧ s'.heap.get? S = some oS ∧ s'.heap.get? I0 = some oI := by
  have nf : ∀ f, s0.heap.objs.size ≤ f → f ∉ frs X.stack := fun f hf z => (List.mem_cons.mp (I.stkSub _ z)).elim (fun e => absurd I.lt (by rw [← e]; exact Nat.not_lt.mpr hf)) fun e => I.nofs hf e
  obtain ⟨w, H2, os, bare, un, hok, r, sm, q⟩ := c
  exact ⟨w, H2, ⟨j.inv.call' os un hok bare fun b hb => (nomatch hb), j.sm.trans sm, un.free _ _ gS j.nS (by simp), un.free _ _ gI j.nI (by simp), un.free _ _ j.gf j.nf (by simp), un.keep _ _ j.gf j.nf fs (by simp)⟩, sm, r, q, un.keep _ _ gS j.nS (nf _ hS) (by simp), un.keep _ _ gI j.nI (nf _ hI) (by simp)⟩
end
end PV

namespace PV
open PySem PySem.Spec PyProof.Rows L2
def pth (x : Str) : Str × Option Str := if x == ("Code.nearest" : Str) then ("Code", some "nearest") else (x, none)
def codeAd (K : PySem.W.Frag) (x : Str) : Addr := match K.lookup (He.fAd K (pth x)) with
  | some ⟨_, _, .func fd, _⟩ => (match fd.code with
    | .ref c => c
    | _ => 0)
  | _ => 0
def tabAd (K : PySem.W.Frag) (x : Str) : Addr := match K.lookup (codeAd K x) with
  | some ⟨_, _, .fields vs, _⟩ => (match (vs[11]? : Option Value) with
    | some (.ref P) => P
    | _ => 0)
  | _ => 0
def tabAds (K : PySem.W.Frag) (ls : List Str) : List Addr := ls.map (tabAd K)
def noTab (K : PySem.W.Frag) (ls : List Str) : PySem.W.Frag := K.filter fun q => !(tabAds K ls).contains q.1
def emptyTab : Option Obj → Bool
  | some ⟨.none, none, .fields vs, sl⟩ => vs.isEmpty && sl.isEmpty
  | _ => false
def mkB (K : PySem.W.Frag) (c : Addr) (x : Str) : Bool := match K.lookup (He.fAd K (pth x)) with
  | some ⟨_, _, .func fd, _⟩ => (match fd.code with
    | .ref c' => c' == c
    | _ => false)
  | _ => true
def tabsB (K0 : PySem.W.Frag) (ls : List Str) : Bool := decide (tabAds K0 ls).Nodup && ls.all fun x => PySem.W.codeHdIn K0 (codeAd K0 x) (tabAd K0 x) && emptyTab (K0.lookup (tabAd K0 x)) && mkB (noTab K0 ls) (codeAd K0 x) x
theorem emptyTab_ok {o : Option Obj} (h : emptyTab o = true) : o = some { cls := .none, data := .fields #[] } := by
  unfold emptyTab at h
  split at h
  · rename_i vs sl
    simp only [Bool.and_eq_true, Array.isEmpty_iff] at h
    rw [h.1, h.2]
  · cases h
theorem lookup_filter {p : Addr → Bool} (a : Addr) : ∀ l : List (Addr × Obj), (l.filter fun q => p q.1).lookup a = if p a = true then l.lookup a else none
  | [] => by simp
  | (b, o) :: r => by
    have ih := lookup_filter (p := p) a r
    by_cases hb : p b = true
    · rw [List.filter_cons_of_pos (by exact hb)]
      by_cases e : a = b
      · subst e
        simp [List.lookup, hb]
      · have : (a == b) = false := beq_eq_false_iff_ne.mpr e
        simp only [List.lookup, this]
        exact ih
    · rw [List.filter_cons_of_neg (by exact hb), ih]
      by_cases e : a = b
      · subst e
        simp [hb]
      · have : (a == b) = false := beq_eq_false_iff_ne.mpr e
        simp only [List.lookup, this]
theorem noTab_lookup {K : PySem.W.Frag} {ls : List Str} (a : Addr) : (noTab K ls).lookup a = if (!(tabAds K ls).contains a) = true then K.lookup a else none := lookup_filter (p := fun b => !(tabAds K ls).contains b) a K
theorem noTab_in {K : PySem.W.Frag} {ls : List Str} {h : Heap} (hK : K.In h) : (noTab K ls).In h := fun a o e => by
  rw [noTab_lookup] at e
  split at e
  · exact hK a o e
  · cases e
def obsT (fa : List He.Fa) (fn : List He.DefD) (ex : List (PySem.W.Frag → Bool)) (ls : List Str) (K0 : PySem.W.Frag) : He.AlD := ((obsE fa fn ex (noTab K0 ls)).1 && tabsB K0 ls, (obsE fa fn ex (noTab K0 ls)).2)
def obsTG (n : Nat) (fa : List He.Fa) (fn : List He.DefD) (ex : List (PySem.W.Frag → Bool)) (ls : List Str) (g : Addr → Option Obj) : He.AlD := obsT fa fn ex ls (He.frG g (He.asD g n))
def hookT (n : Nat) (fa : List He.Fa) (fn : List He.DefD) (ex : List (PySem.W.Frag → Bool)) (ls : List Str) : PySem.W.Hook where
  α := He.AlD
  obs := fun s => obsTG n fa fn ex ls s.heap.get?
  val := fun _ => He.valD fn
  says := fun _ h => ∃ K : PySem.W.Frag, K.In h ∧ obsT fa fn ex ls K = He.valD fn
  of := fun _ _ e => ⟨_, He.frG_in, e⟩
  keeps := fun _ _ _ ⟨K, hK, c⟩ k => ⟨K, PySem.W.Frag.In.keeps hK k, c⟩
theorem obsTG_eq {n : Nat} {fa : List He.Fa} {fn : List He.DefD} {ex : List (PySem.W.Frag → Bool)} {ls : List Str} {g : Addr → Option Obj} {s : Shared} (h : ∀ a, g a = s.heap.get? a) : obsTG n fa fn ex ls g = (hookT n fa fn ex ls).obs s := by
  have e : g = s.heap.get? := funext h
  rw [e] <;> rfl
theorem obsT_of {fa : List He.Fa} {fn : List He.DefD} {ex : List (PySem.W.Frag → Bool)} {ls : List Str} {K : PySem.W.Frag} (e : obsT fa fn ex ls K = He.valD fn) : obsE fa fn ex (noTab K ls) = He.valD fn ∧ tabsB K ls = true := by
  have e1 : ((obsE fa fn ex (noTab K ls)).1 && tabsB K ls) = true := congrArg (fun z : He.AlD => z.1) e
  have e2 : (obsE fa fn ex (noTab K ls)).2 = fn.map He.DefD.val := congrArg (fun z : He.AlD => z.2) e
  rw [Bool.and_eq_true] at e1
  exact ⟨Prod.ext e1.1 e2, e1.2⟩
def csOf (K : PySem.W.Frag) (ls : List Str) : List (Addr × Addr) := ls.map fun x => (codeAd K x, tabAd K x)
def lamQ (x : Str) : Str := x ++ ".<locals>." ++ "<lambda>"
@[reducible] def ltOf (K : PySem.W.Frag) (ls : List Str) : LT := ⟨ls.map fun x => (tabAd K x, lamQ x)⟩
section
variable {K : PySem.W.Frag} {ls : List Str} {h : Heap}
theorem tabsB_at (b : tabsB K ls = true) : ∀ x ∈ ls, PySem.W.codeHdIn K (codeAd K x) (tabAd K x) = true ∧ emptyTab (K.lookup (tabAd K x)) = true ∧ mkB (noTab K ls) (codeAd K x) x = true := fun x hx => by
  unfold tabsB at b
  simp only [Bool.and_eq_true, List.all_eq_true] at b
  have := b.2 x hx
  exact ⟨this.1.1, this.1.2, this.2⟩
theorem tabs1 (b : tabsB K ls = true) (hK : K.In h) : ∀ p ∈ csOf K ls, h.get? p.2 = some { cls := .none, data := .fields #[] } := fun p hp => by
  obtain ⟨x, hx, rfl⟩ := List.mem_map.mp hp
  exact hK _ _ (emptyTab_ok (tabsB_at b x hx).2.1)
theorem tabs2 : ∀ p ∈ csOf K ls, (noTab K ls).lookup p.2 = none := fun p hp => by
  obtain ⟨x, hx, rfl⟩ := List.mem_map.mp hp
  rw [noTab_lookup]
  have : (tabAds K ls).contains (tabAd K x) = true := List.contains_iff_mem.mpr (List.mem_map.mpr ⟨x, hx, rfl⟩)
  simp only [this, Bool.not_true, Bool.false_eq_true, if_false]
theorem tabs3 (b : tabsB K ls = true) (hK : K.In h) : ∀ p ∈ csOf K ls, PySem.W.CodeHd h p.1 p.2 := fun p hp => by
  obtain ⟨x, hx, rfl⟩ := List.mem_map.mp hp
  exact PySem.W.codeHd_of_K hK (tabsB_at b x hx).1
theorem tabs4 {H : Hp} (t : ∀ p ∈ csOf K ls, H p.2 = some (.tbl #[])) : LamX.Tabs (ltOf K ls).T H := fun p hp => by
  obtain ⟨x, hx, rfl⟩ := List.mem_map.mp hp
  exact LamX.TabS.nil (t (codeAd K x, tabAd K x) (List.mem_map.mpr ⟨x, hx, rfl⟩))
theorem nodup_map_inj {α β : Type} {f : α → β} : ∀ {l : List α}, (l.map f).Nodup → ∀ x ∈ l, ∀ y ∈ l, f x = f y → x = y
  | [], _, x, hx, _, _, _ => by cases hx
  | a :: l, nd, x, hx, y, hy, e => by
    rw [List.map_cons, List.nodup_cons] at nd
    rcases List.mem_cons.mp hx with e1 | e1 <;> rcases List.mem_cons.mp hy with e2 | e2
    · rw [e1, e2]
    · exact absurd (List.mem_map.mpr ⟨y, e2, by rw [← e, e1]⟩) nd.1
    · exact absurd (List.mem_map.mpr ⟨x, e1, by rw [e, e2]⟩) nd.1
    · exact nodup_map_inj nd.2 x e1 y e2 e
end
class LB [LT] (K : PySem.W.Frag) (mg : Str → Option Value) (base : Heap) (ls : List Str) : Prop where
  ok : ∀ x ∈ ls, ∃ c P, LamX.TabB base mg c P ∧ (P, lamQ x) ∈ LT.T ∧ (∀ p ∈ LT.T, p.1 = P → p.2 = lamQ x) ∧ mkB K c x = true
theorem lb_of {K : PySem.W.Frag} {ls : List Str} {mg : Str → Option Value} {base : Heap} (b : tabsB K ls = true) (t : ∀ p ∈ csOf K ls, LamX.TabB base mg p.1 p.2) : @LB (ltOf K ls) (noTab K ls) mg base ls := by
  refine @LB.mk (ltOf K ls) _ _ _ _ fun x hx => ⟨codeAd K x, tabAd K x, t _ (List.mem_map.mpr ⟨x, hx, rfl⟩), List.mem_map.mpr ⟨x, hx, rfl⟩, fun p hp e => ?_, (tabsB_at b x hx).2.2⟩
  obtain ⟨y, hy, rfl⟩ := List.mem_map.mp hp
  have nd : (tabAds K ls).Nodup := by
    unfold tabsB at b
    simp only [Bool.and_eq_true, decide_eq_true_eq] at b
    exact b.1
  rw [nodup_map_inj nd y hy x hx e]
section
variable [LT] [RT]
variable {P : Program} {w : World} {K : PySem.W.Frag} {mg : Str → Option Value} {base : Heap}
theorem fnL_sound {x nm : Str} {pa : Str × Option Str} {args : Arguments} {body : List Stmt} {sc : Scope} {fd : FuncData} {N ps : List Str} {k : Nat} {db : Sx} {ls : List Str} [LB K mg base ls] (hx : x ∈ ls) (F : FunD K nm x args body sc [] [] (He.fAd K pa) fd) (S : FnScope N ps sc)
    (hb : ∀ (cdv : Value) (A : Around) (outer : List Env) (s : Shared) (H : Hp), Room k (A.deeper (envOfC x sc s.heap.objs.size (He.fAd K pa) cdv)) → LamAt (cxOf CX0 P w K mg base N x sc (He.fAd K pa) cdv A outer s H E0).nox → SSs (cxOf CX0 P w K mg base N x sc (He.fAd K pa) cdv A outer s H E0).nox body db)
    (hp : pth x = pa := by decide +kernel) (hso : RT.so = false := by rfl) :
    FnOk P w K mg base CX0 (k + 1) (He.fAd K pa) fd ps (spD mg (fnc ps.length N.length db)) := by
  have hpl : ps.length ≤ N.length := by have := congrArg List.length S.pre; rw [List.length_take] at this; omega
  obtain ⟨oc, od, dV, kV, doc, pm, an, cdv, ct, osl, rfl, lk, hcd, _, _⟩ := F.ex
  obtain ⟨c, T, tb, h1, h2, h3⟩ := LB.ok (K := K) (mg := mg) (base := base) x hx
  have hc : cdv = .ref c := by
    unfold mkB at h3
    rw [hp, show K.lookup (He.fAd K pa) = _ from lk] at h3
    dsimp only at h3
    cases cdv with
    | ref c' => exact congrArg Value.ref (beq_iff_eq.mp h3)
    | _ => cases h3
  subst hc
  refine fn_of lk hcd S (fun vs H Q E h => ?_) fun A outer s H vs Q E hr h => ?_
  · obtain ⟨A, ds, d, fr, r, e, q⟩ := h
    unfold fnc at e
    split at e
    · rename_i hl; rw [r.len, hl]
    · cases e
  · refine ⟨tS K mg db, PSs.nox (hb _ A outer s H hr ⟨c, T, tb, rfl, h1, h2⟩), ?_⟩
    obtain ⟨A1, ds, d, fr, r, e, q⟩ := h
    unfold fnc at e
    split at e
    · rename_i hl
      obtain ⟨rs, h1, h2⟩ := bnd e
      have rl := erel_start (K := K) (N := N) 0 fr r (by rw [hl]; exact hpl)
      refine ⟨_, _, _, rs, rl, by rw [hl]; exact h1, ?_⟩
      cases rs with
      | nx e' =>
        cases h2
        exact fun σ' H' O' rl' f' => q _ H' rl'.same .non
      | ret d' =>
        cases h2
        exact fun v H' s' rv => q v H' s' ((retP_rep hso rv).mono (fun a h => h.1.elim id fun z => fr a z) keepRefl)
      | bk e' => cases h2
      | ct e' => cases h2
    · cases e
end
end PV

namespace PV
variable [LT] [RT]
open PySem PySem.Spec PyProof.Rows L2
end PV

namespace PV
variable [LT] [RT]
open PySem PySem.Spec PyProof.Rows L2
end PV

namespace PV
variable [LT] [RT]
open PySem PySem.Spec PyProof.Rows L2
def rL (mg : Str → Option Value) (f : Fn) : List V → Hp → VK → Prop := fun vs H Q => ∃ A ds xs, Fr A H ∧ Reps mg A H vs ds ∧ f ds = some (.lst xs) ∧ ∀ p H', Same H H' → H p = none → Own mg (fun a => A a ∧ a ≠ p) H' p (.lst xs) → Q (.ref p) H'
def spL (mg : Str → Option Value) (f : Fn) : Sp := fun vs H Q _ => rL mg f vs H Q
section
variable {P : Program} {w : World} {K : PySem.W.Frag} {mg : Str → Option Value} {base : Heap}
structure CallN (P : Program) (w : World) (K : PySem.W.Frag) (mg : Str → Option Value) (base : Heap) (k : Nat) (x : Str) (F : Fn) : Prop where
  ex : ∃ f fd ps, FnOk P w K mg base CX0 k f fd ps (spL mg F) ∧ mg x = some (.ref f) ∧ PySem.W.keepIn K (.ref f) = true ∧ Binds K fd ps []
structure MethL (P : Program) (w : World) (K : PySem.W.Frag) (mg : Str → Option Value) (base : Heap) (k : Nat) (c m : Str) (F : Fn) : Prop where
  ex : ∃ C f fd ps, FnOk P w K mg base CX0 k f fd ps (spL mg F) ∧ mg c = some (.ref C) ∧ Cls K C ∧ Meth K C m f ∧ Binds K fd ps []
end
end PV

namespace PV
variable [LT] [RT]
open PySem PySem.Spec PyProof.Rows L2
end PV

namespace PV
variable [LT] [RT]
open PySem PySem.Spec PyProof.Rows L2
end PV

namespace PV
variable [LT] [RT]
open PySem PySem.Spec PyProof.Rows L2
end PV

namespace PV
variable [LT] [RT]
open PySem PySem.Spec PyProof.Rows L2
structure VR (mg : Str → Option Value) (A : Addr → Prop) (σ : L2.St) (H : Hp) (env : DEnv) : Prop where
  len : env.length = σ.length
  vals : ∀ (i : Nat) (d : D), env[i]? = some (DSlot.val d) → ∃ v, σ[i]? = some (some v) ∧ Rep mg A H v d
  pl : ∀ (i : Nat) (x : DSlot), env[i]? = some x → x = .no ∨ ∃ d, x = .val d
def grown (A : Addr → Prop) (H : Hp) : Addr → Prop := fun x => A x ∨ H x = none
section
variable {K : PySem.W.Frag} {mg : Str → Option Value} {A : Addr → Prop} {σ : L2.St} {H H1 : Hp} {env : DEnv}
theorem VR.erel (r : VR mg A σ H env) (sf : Addr) (tb : LamX.Tabs LT.T H) : ERel K mg ⟨H, A, sf, tb⟩ (fun _ => none) σ H env := by
  refine ⟨r.len, Same.refl H, fun i d e => ?_, fun i d e => ?_, fun i d e => ?_, fun i j p a _ => (nomatch a), fun i p a => (nomatch a), fun i p a => (nomatch a), ⟨0, fun _ _ => rfl⟩, fun i p a => (nomatch a)⟩
  · obtain ⟨v, h1, h2⟩ := r.vals i d e
    exact ⟨v, h1, h2.mono (fun a h => ⟨.inl h, .inr fun _ z => nomatch z⟩) keepRefl⟩
  · rcases r.pl i _ e with z | ⟨_, z⟩ <;> cases z
  · rcases r.pl i _ e with z | ⟨_, z⟩ <;> cases z
theorem VR.heap (r : VR mg A σ H env) (s : Same H H1) : VR mg (grown A H) σ H1 env := ⟨r.len, fun i d e => by
  obtain ⟨v, h1, h2⟩ := r.vals i d e
  exact ⟨v, h1, (h2.same s).mono (fun a h => .inl h) keepRefl⟩, r.pl⟩
theorem VR.set (r : VR mg A σ H env) {i : Nat} {v : V} {d : D} (rv : Rep mg A H v d) : VR mg A (σ.set i (some v)) H (env.set i (.val d)) := by
  refine ⟨by simp [r.len], fun j d' e => ?_, fun j x e => ?_⟩
  · rcases get_set e with ⟨rfl, e2, hl⟩ | ⟨hj, e2⟩
    · cases e2
      exact ⟨v, List.getElem?_set_self (by rw [← r.len]; exact hl), rv⟩
    · obtain ⟨w, h1, h2⟩ := r.vals j _ e2
      exact ⟨w, by rw [List.getElem?_set_ne (Ne.symm hj)]; exact h1, h2⟩
  · rcases get_set e with ⟨rfl, e2, hl⟩ | ⟨hj, e2⟩
    · exact .inr ⟨d, e2⟩
    · exact r.pl j x e2
theorem VR.tE (r : VR mg A σ H env) (tb : LamX.Tabs LT.T H) {de : Ex} {d : D} {Q : VK} {τ : Bool} (hd : de env = some d) (q : ∀ v H1, Same H H1 → Rep mg (grown A H) H1 v d → Q v H1) : PV.tE K mg τ de σ H Q :=
  ⟨⟨H, A, 0, tb⟩, fun _ => none, env, d, r.erel 0 tb, hd, fun v H1 s rv => q v H1 s (rv.mono (fun a h => h.1) keepRefl)⟩
theorem VR.tT (r : VR mg A σ H env) (tb : LamX.Tabs LT.T H) {dt : Tx} {b : Bool} {Q : Bool → Hp → Prop} (hd : dt env = some b) (q : ∀ H1, Same H H1 → Q b H1) : PV.tT K mg dt σ H Q :=
  ⟨⟨H, A, 0, tb⟩, fun _ => none, env, b, r.erel 0 tb, hd, q⟩
end
theorem keep_out {A : Addr → Prop} {H : Hp} {b : Addr} {ys : List V} {o' : HO} (hb : ¬ A b) (hH : H b = some (.lst ys)) : Keep A H (upd H b o') := by
  have ne : ∀ {a}, A a → a ≠ b := fun ha z => hb (z ▸ ha)
  refine ⟨fun a u ha _ r => ?_, fun a C dx fs ha e => ?_, fun a xs ha e => ?_, fun a xs e => ?_, fun a ob xs e => ?_⟩
  · rcases r with r | ⟨o, r⟩
    · exact .inl (by rw [upd_ne (ne ha)]; exact r)
    · exact .inr ⟨o, by rw [upd_ne (ne ha)]; exact r⟩
  · rw [upd_ne (ne ha)]; exact e
  · rw [upd_ne (ne ha)]; exact e
  · rw [upd_ne (fun z => by subst z; rw [hH] at e; cases e)]; exact e
  · rw [upd_ne (fun z => by subst z; rw [hH] at e; cases e)]; exact e
structure TB (mg : Str → Option Value) (A : Addr → Prop) (H : Hp) (a : Addr) (bs : List Addr) (rows : List (List D)) : Prop where
  ha : H a = some (.lst (bs.map V.ref))
  na : ¬ A a
  nd : bs.Nodup
  nab : a ∉ bs
  len : bs.length = rows.length
  row : ∀ (j : Nat) (b : Addr) (r : List D), bs[j]? = some b → rows[j]? = some r → ¬ A b ∧ ∃ ys, H b = some (.lst ys) ∧ Reps mg A H ys r
section
variable {mg : Str → Option Value} {A : Addr → Prop} {H H1 : Hp} {a : Addr} {bs : List Addr} {rows : List (List D)}
theorem TB.heap (t : TB mg A H a bs rows) (s : Same H H1) : TB mg (grown A H) H1 a bs rows := by
  refine ⟨s _ _ t.ha, fun h => ?_, t.nd, t.nab, t.len, fun j b r hb hr => ?_⟩
  · rcases h with h | h
    · exact t.na h
    · rw [t.ha] at h; cases h
  · obtain ⟨h1, ys, h2, h3⟩ := t.row j b r hb hr
    refine ⟨fun h => ?_, ys, s _ _ h2, (h3.same s).mono (fun a h => .inl h) keepRefl⟩
    rcases h with h | h
    · exact h1 h
    · rw [h2] at h; cases h
theorem TB.push (t : TB mg A H a bs rows) {j : Nat} {b : Addr} {r : List D} {ys : List V} {v : V} {d : D} (hb : bs[j]? = some b) (hr : rows[j]? = some r) (hH : H b = some (.lst ys)) (rs : Reps mg A H ys r) (rv : Rep mg A H v d) :
    TB mg A (upd H b (.lst (ys ++ [v]))) a bs (rows.set j (r ++ [d])) := by
  have hbA := (t.row j b r hb hr).1
  have kp : Keep A H (upd H b (.lst (ys ++ [v]))) := keep_out hbA hH
  have hab : a ≠ b := fun z => t.nab (z ▸ List.mem_of_getElem? hb)
  have hj : j < rows.length := (List.getElem?_eq_some_iff.mp hr).1
  refine ⟨by rw [upd_ne hab]; exact t.ha, t.na, t.nd, t.nab, by rw [List.length_set]; exact t.len, fun i c r' hc hr' => ?_⟩
  by_cases e : i = j
  · subst e
    rw [hb] at hc
    cases hc
    rw [List.getElem?_set_self hj] at hr'
    cases hr'
    refine ⟨hbA, _, upd_same, ?_⟩
    exact (rs.mono (fun _ h => h) kp).append (.cons (rv.mono (fun _ h => h) kp) .nil)
  · rw [List.getElem?_set_ne (Ne.symm e)] at hr'
    obtain ⟨h1, zs, h2, h3⟩ := t.row i c r' hc hr'
    have hcb : c ≠ b := fun z => by
      subst z
      exact e (nodup_get t.nd hc hb)
    exact ⟨h1, zs, by rw [upd_ne hcb]; exact h2, h3.mono (fun _ h => h) kp⟩
theorem TB.same (t : TB mg A H a bs rows) : bs.length = rows.length := t.len
theorem TB.rep (t : TB mg A H a bs rows) : Rep mg (fun x => A x ∨ x = a ∨ x ∈ bs) H (.ref a) (.lst (rows.map D.lst)) := by
  refine .lst (.inr (.inl rfl)) t.ha ?_
  have : ∀ (cs : List Addr) (rs : List (List D)), cs.length = rs.length → (∀ (j : Nat) b r, cs[j]? = some b → rs[j]? = some r → b ∈ bs ∧ ∃ ys, H b = some (.lst ys) ∧ Reps mg A H ys r) → Reps mg (fun x => A x ∨ x = a ∨ x ∈ bs) H (cs.map V.ref) (rs.map D.lst) := fun cs => by
    induction cs with
    | nil =>
      intro rs hl _
      cases rs with
      | nil => exact .nil
      | cons => cases hl
    | cons c cs ih =>
      intro rs hl h
      cases rs with
      | nil => cases hl
      | cons r rs =>
        obtain ⟨h1, ys, h2, h3⟩ := h 0 c r rfl rfl
        exact .cons (.lst (.inr (.inr h1)) h2 (h3.mono (fun _ z => .inl z) keepRefl)) (ih rs (by simpa using hl) fun j b r' hb hr => h (j + 1) b r' hb hr)
  exact this bs rows t.len fun j b r hb hr => ⟨List.mem_of_getElem? hb, (t.row j b r hb hr).2⟩
end
end PV

namespace PV
variable [LT] [RT]
open PySem PySem.Spec PyProof.Rows L2
structure FI (mg : Str → Option Value) (H0 : Hp) (A0 P : Addr → Prop) (Hw : Hp) (a : Addr) (bs : List Addr) (A : Addr → Prop) (σ : L2.St) (H : Hp) (env : DEnv) (rows : List (List D)) : Prop where
  vr : VR mg A σ H env
  tb : LamX.Tabs LT.T H
  t : TB mg A H a bs rows
  s3 : σ[3]? = some (some (.ref a))
  e3 : env[3]? = some .no
  e8 : env[8]? = some .no
  sub : ∀ x, A x → A0 x ∨ H0 x = none
  sm : Same H0 H
  fa : H0 a = none
  fb : ∀ b ∈ bs, H0 b = none
  l11 : env.length = 11
  pw : ∀ x, P x → A x
  kw : Keep P Hw H
section
variable {K : PySem.W.Frag} {mg : Str → Option Value} {H0 Hw : Hp} {A0 A P : Addr → Prop} {a : Addr} {bs : List Addr} {σ : L2.St} {H H1 : Hp} {env : DEnv} {rows : List (List D)}
theorem FI.heap (f : FI mg H0 A0 P Hw a bs A σ H env rows) (s : Same H H1) : FI mg H0 A0 P Hw a bs (grown A H) σ H1 env rows :=
  ⟨f.vr.heap s, s.tabs f.tb, f.t.heap s, f.s3, f.e3, f.e8, fun x h => h.elim (f.sub x) fun z => .inr (f.sm.dom x z), f.sm.trans s, f.fa, f.fb, f.l11, fun x h => .inl (f.pw x h), f.kw.trans (Same.keep s)⟩
theorem FI.set (f : FI mg H0 A0 P Hw a bs A σ H env rows) {i : Nat} {v : V} {d : D} (rv : Rep mg A H v d) (h3 : i ≠ 3) (h8 : i ≠ 8) : FI mg H0 A0 P Hw a bs A (σ.set i (some v)) H (env.set i (.val d)) rows :=
  ⟨f.vr.set rv, f.tb, f.t, by rw [List.getElem?_set_ne h3]; exact f.s3, by rw [List.getElem?_set_ne h3]; exact f.e3, by rw [List.getElem?_set_ne h8]; exact f.e8, f.sub, f.sm, f.fa, f.fb, by rw [List.length_set]; exact f.l11, f.pw, f.kw⟩
theorem FI.push (f : FI mg H0 A0 P Hw a bs A σ H env rows) {j : Nat} {b : Addr} {r : List D} {ys : List V} {v : V} {d : D} (hb : bs[j]? = some b) (hr : rows[j]? = some r) (hH : H b = some (.lst ys)) (rs : Reps mg A H ys r) (rv : Rep mg A H v d) :
    FI mg H0 A0 P Hw a bs A σ (upd H b (.lst (ys ++ [v]))) env (rows.set j (r ++ [d])) := by
  have hbA := (f.t.row j b r hb hr).1
  have kp : Keep A H (upd H b (.lst (ys ++ [v]))) := keep_out hbA hH
  refine ⟨⟨f.vr.len, fun i d' e => ?_, f.vr.pl⟩, fun p hp => tabS_upd hH trivial (f.tb p hp), f.t.push hb hr hH rs rv, f.s3, f.e3, f.e8, f.sub, f.sm.put (f.fb b (List.mem_of_getElem? hb)) hH trivial, f.fa, f.fb, f.l11, f.pw, f.kw.trans (kp.sub f.pw)⟩
  obtain ⟨w, h1, h2⟩ := f.vr.vals i _ e
  exact ⟨w, h1, h2.mono (fun _ h => h) kp⟩
end
end PV

namespace PV
variable [LT] [RT]
open PySem PySem.Spec PyProof.Rows L2
end PV

namespace PV
variable [LT] [RT]
open PySem PySem.Spec PyProof.Rows L2
end PV

namespace PV
variable [LT] [RT]
open PySem PySem.Spec PyProof.Rows L2
section
variable {X : Cx}
theorem VR.put {mg : Str → Option Value} {A : Addr → Prop} {σ : L2.St} {H : Hp} {env : DEnv} (r : VR mg A σ H env) {i : Nat} {v : V} {d : D} (hs : σ[i]? = some (some v)) (rv : Rep mg A H v d) : VR mg A σ H (env.set i (.val d)) := by
  refine ⟨by rw [List.length_set]; exact r.len, fun j d' e => ?_, fun j x e => ?_⟩
  · rcases get_set e with ⟨rfl, e2, hl⟩ | ⟨hj, e2⟩
    · cases e2
      exact ⟨v, hs, rv⟩
    · exact r.vals j _ e2
  · rcases get_set e with ⟨rfl, e2, hl⟩ | ⟨hj, e2⟩
    · exact .inr ⟨d, e2⟩
    · exact r.pl j x e2
theorem VR.mono {mg : Str → Option Value} {A A' : Addr → Prop} {σ : L2.St} {H : Hp} {env : DEnv} (r : VR mg A σ H env) (h : ∀ x, A x → A' x) : VR mg A' σ H env := ⟨r.len, fun i d e => by
  obtain ⟨v, h1, h2⟩ := r.vals i d e
  exact ⟨v, h1, h2.mono h keepRefl⟩, r.pl⟩
end
end PV

namespace PV
variable [LT] [RT]
open PySem PySem.Spec PyProof.Rows L2
end PV

namespace PV
variable [LT] [RT]
open PySem PySem.Spec PyProof.Rows L2
end PV

namespace PV
variable [LT] [RT]
open PySem PySem.Spec PyProof.Rows L2
section
variable {K : PySem.W.Frag} {mg : Str → Option Value} {B : Bs} {O : Nat → Option Addr} {env : DEnv} {σ : L2.St} {H : Hp} {d : Addr} {kvs : List (List Key × V)}
theorem own_unlock {A : Addr → Prop} {p : Addr} {od : Obj} {x : PV.D} (hd : H d = some (.frz od (.dT kvs))) (o : Own mg A H p x) : Own mg A (upd H d (.dT kvs)) p x := by
  have nt : ∀ u, H p = some u → (∀ o w, u ≠ .frz o w) → upd H d (.dT kvs) p = some u := fun u h hu => at_unlock hd h hu
  cases o with
  | lst h r => exact .lst (nt _ h fun _ _ z => nomatch z) (Reps.unlock hd r)
  | dicK h r => exact .dicK (nt _ h fun _ _ z => nomatch z) (Reps.unlock hd r)
  | dicT h r => exact .dicT (nt _ h fun _ _ z => nomatch z) (Reps.unlock hd r)
  | ins h c r => exact .ins (nt _ h fun _ _ z => nomatch z) c (Reps.unlock hd r)
theorem ERel.unlock {od : Obj} {B0 : Bs} (rl0 : Same B0.H0 H) (hd0 : H d = some (.dT kvs)) (rl : ERel K mg (lockB B0 d od kvs) O σ H' env) (hd : H' d = some (.frz od (.dT kvs))) : ERel K mg B0 O σ (upd H' d (.dT kvs)) env := by
  have dn : ∀ {a τ O}, Lv (lockB B0 d od kvs) O τ a → Lv B0 O τ a := fun h => lockB_Lv.mp h
  have ne : ∀ {j p}, O j = some p → p ≠ d := fun {j p} h z => by
    obtain ⟨o, h1, w⟩ := rl.trk j p h
    subst z
    rw [hd] at h1; cases h1; exact w
  refine ⟨rl.len, ⟨fun b o e _ => ?_, fun t p hp => tabS_unlock hd (rl.same.tab (fun p2 hp2 => ?_) p hp), fun b h => ?_⟩, fun i x e => ?_, fun i x e => ?_, fun i x e => ?_, rl.inj, fun j p e => ?_, fun i p e => lockB_none.mp (rl.fr0 i p e), rl.bd, rl.nst⟩
  · by_cases hb : b = d
    · subst hb
      have := rl0 b o e
      rw [hd0] at this
      cases this
      exact upd_same
    · rw [upd_ne hb]
      refine rl.same b o ?_
      show (if b = d ∧ _ then _ else B0.H0 b) = _
      rw [if_neg fun z => hb z.1]
      exact e
  · exact lockH_tabs B0 d od kvs p2 hp2
  · exact lockB_none.mp (rl.same.dom b (dom_upd h))
  · obtain ⟨v, h1, h2⟩ := rl.vals i x e
    exact ⟨v, h1, (Rep.unlock hd h2).mono (fun a z => dn z) keepRefl⟩
  · obtain ⟨p, h1, h2, h3, h4⟩ := rl.owns i x e
    exact ⟨p, h1, h2, lockB_none.mp h3, (own_unlock hd h4).mono (fun a z => dn z) keepRefl fun _ z => z⟩
  · obtain ⟨h1, h2, h3⟩ := rl.slfs i x e
    exact ⟨h1, h2, (own_unlock hd h3).mono (fun a z => dn z) keepRefl fun _ z => z⟩
  · obtain ⟨o, h1, w⟩ := rl.trk j p e
    exact ⟨o, by rw [upd_ne (ne e)]; exact h1, w⟩
theorem Fm.unlock {od : Obj} {O' : Nat → Option Addr} {H' : Hp} (hd0 : H d = some (.dT kvs)) (hO : ∀ j, O j ≠ some d) (f : Fm O (upd H d (.frz od (.dT kvs))) O' H') : H' d = some (.frz od (.dT kvs)) ∧ Fm O H O' (upd H' d (.dT kvs)) := by
  have hd := f.keep d _ hO upd_same
  refine ⟨hd, fun b o hb e _ => ?_, fun t p hp => tabS_unlock hd (f.tab (fun p2 hp2 => tabS_upd hd0 trivial (t p2 hp2)) p hp), fun b h => dom_upd (f.dom b (dom_upd h)), fun j c e => ?_⟩
  · by_cases hbd : b = d
    · subst hbd; rw [hd0] at e; cases e; exact upd_same
    · rw [upd_ne hbd]
      exact f.keep b o hb (by rw [upd_ne hbd]; exact e)
  · rcases f.sub j c e with h | h
    · exact .inl h
    · exact .inr (dom_upd h)
end
end PV

namespace PV
variable [LT] [RT]
open PySem PySem.Spec PyProof.Rows L2
structure SameN (n : Addr) (H H' : Hp) : Prop where
  stay : ∀ (b : Addr) (o : HO), b ≠ n → H b = some o → [NT o] → H' b = some o
  tab : LamX.Tabs LT.T H → LamX.Tabs LT.T H'
  dom : ∀ b, b ≠ n → H' b = none → H b = none
theorem SameN.after {x : Addr} {H H1 H' : Hp} (e : SameN x H1 H') (s : Same H H1) (hx : H x = Option.none) : Same H H' := ⟨fun b o z => e.stay b o (ne_of_none z hx) (s b o z), fun t => e.tab (s.tab t), fun b z => by
  by_cases hb : b = x
  · subst hb; exact hx
  · exact s.dom b (e.dom b hb z)⟩
def spO (mg : Str → Option Value) (F : Fn) : Sp := fun vs H Q _ => ∃ (A : Addr → Prop) (v0 v1 : V) (n : Addr) (d0 d1 dn d : D), vs = [v0, v1, .ref n] ∧ ¬ A n ∧ (∀ a, H a = none → A a) ∧ LamX.Tabs LT.T H ∧ Rep mg A H v0 d0 ∧ Rep mg A H v1 d1 ∧ Own mg A H n dn ∧ F [d0, d1, dn] = some d ∧
  ∀ v H', SameN n H H' → Rep mg (fun a => A a ∨ a = n) H' v d → Q v H'
section
variable {P : Program} {w : World} {K : PySem.W.Frag} {mg : Str → Option Value} {base : Heap}
structure MethO (P : Program) (w : World) (K : PySem.W.Frag) (mg : Str → Option Value) (base : Heap) (k : Nat) (c m : Str) (F : Fn) : Prop where
  ex : ∃ C f fd ps, FnOk P w K mg base CX0 k f fd ps (spO mg F) ∧ mg c = some (.ref C) ∧ Cls K C ∧ Meth K C m f ∧ Binds K fd ps []
end
end PV

namespace PV
variable [LT] [RT]
open PySem PySem.Spec PyProof.Rows L2
def insR (sp pts : D) (rows : List D) : D := .ins "Rows" ["space", "points", "rows"] [sp, pts, .lst rows]
structure KS (mg : Str → Option Value) (H0 : Hp) (A0 : Addr → Prop) (r : Addr) (A : Addr → Prop) (σ : L2.St) (H : Hp) (env : DEnv) : Prop where
  vr : VR mg A σ H env
  tb : LamX.Tabs LT.T H
  s0 : σ[0]? = some (some (.ref r))
  sub : ∀ a, A a → A0 a ∨ H0 a = none
  sm : Same H0 H
  l1 : 1 ≤ env.length
section
variable {K : PySem.W.Frag} {mg : Str → Option Value} {H0 : Hp} {A0 : Addr → Prop} {r : Addr} {A : Addr → Prop} {σ : L2.St} {H H1 : Hp} {env : DEnv}
theorem KS.heap (k : KS mg H0 A0 r A σ H env) (s : Same H H1) : KS mg H0 A0 r (grown A H) σ H1 env :=
  ⟨k.vr.heap s, s.tabs k.tb, k.s0, fun a h => h.elim (k.sub a) fun z => .inr (k.sm.dom a z), k.sm.trans s, k.l1⟩
theorem KS.set (k : KS mg H0 A0 r A σ H env) {i : Nat} {v : V} {d : D} (hi : i ≠ 0) (rv : Rep mg A H v d) : KS mg H0 A0 r A (σ.set i (some v)) H (env.set i (.val d)) :=
  ⟨k.vr.set rv, k.tb, by rw [List.getElem?_set_ne hi]; exact k.s0, k.sub, k.sm, by rw [List.length_set]; exact k.l1⟩
theorem KS.asg {D' : Ends} (k : KS mg H0 A0 r A σ H env) {i : Nat} {de : Ex} {d : D} {τ : Bool} (hi : i ≠ 0) (hd : de env = some d) (q : ∀ A' σ' H', KS mg H0 A0 r A' σ' H' (env.set i (.val d)) → D'.nx σ' H') : tAsg (tE K mg τ de) (gName i) D' σ H :=
  k.vr.tE k.tb hd fun v H1 s rv => q _ _ _ ((k.heap s).set hi rv)
end
def st2 (a b : D) : DEnv := [.val a, .val b]
def st3 (a b c : D) : DEnv := [.val a, .val b, .val c]
def spKp (mg : Str → Option Value) (G : D → D → D → Option D) : Sp := fun vs H Q _ => ∃ (A : Addr → Prop) (r L C dx : Addr) (fs : List (Str × V)) (ts : List V) (self : D) (v1 v2 : V) (d1 d2 t : D), vs = [.ref r, v1, v2] ∧ (∀ a, H a = none → A a) ∧ LamX.Tabs LT.T H ∧
  H r = some (.ins C dx fs) ∧ fs.lookup ("rows" : Str) = some (V.ref L) ∧ mg "Rows" = some (.ref C) ∧ H L = some (.lst ts) ∧ Rep mg A H (.ref r) self ∧ Rep mg A H v1 d1 ∧ Rep mg A H v2 d2 ∧ G self d1 d2 = some t ∧ ts.length < szL ∧ ∀ H1 tv, Same H H1 → Rep mg A H1 tv t → Q .non (upd H1 L (.lst (ts ++ [tv])))
end PV

namespace PV
variable [LT] [RT]
open PySem PySem.Spec PyProof.Rows L2
structure RW (mg : Str → Option Value) (A : Addr → Prop) (H : Hp) (r L : Addr) (sp pts : D) (rows : List D) : Prop where
  ex : ∃ (C dx : Addr) (vs vp : V), H r = some (.ins C dx [("space", vs), ("points", vp), ("rows", .ref L)]) ∧ mg "Rows" = some (.ref C) ∧ Rep mg A H vs sp ∧ Rep mg A H vp pts
  ls : ∃ ts : List V, H L = some (.lst ts) ∧ Reps mg A H ts rows ∧ ∀ t ∈ ts, ∃ q, t = V.ref q
  nr : ¬ A r
  nl : ¬ A L
section
variable {mg : Str → Option Value} {A : Addr → Prop} {H H1 : Hp} {r L : Addr} {sp pts : D} {rows : List D}
theorem RW.rep (w : RW mg A H r L sp pts rows) : Rep mg (fun a => A a ∨ a = r ∨ a = L) H (.ref r) (insR sp pts rows) := by
  obtain ⟨C, dx, vs, vp, h1, h2, h3, h4⟩ := w.ex
  obtain ⟨ts, h5, h6, _⟩ := w.ls
  have up : ∀ a, A a → A a ∨ a = r ∨ a = L := fun a h => .inl h
  have : Rep mg (fun a => A a ∨ a = r ∨ a = L) H (.ref r) (.ins "Rows" (([("space", vs), ("points", vp), ("rows", .ref L)] : List (Str × V)).map (·.1)) [sp, pts, .lst rows]) :=
    .ins (.inr (.inl rfl)) h1 h2 (.cons (h3.mono up keepRefl) (.cons (h4.mono up keepRefl) (.cons (.lst (.inr (.inr rfl)) h5 (h6.mono up keepRefl)) .nil)))
  exact this
theorem RW.heap (w : RW mg A H r L sp pts rows) (s : Same H H1) : RW mg (grown A H) H1 r L sp pts rows := by
  obtain ⟨C, dx, vs, vp, h1, h2, h3, h4⟩ := w.ex
  obtain ⟨ts, h5, h6, h7⟩ := w.ls
  refine ⟨⟨C, dx, vs, vp, s _ _ h1, h2, (h3.same s).mono (fun a h => .inl h) keepRefl, (h4.same s).mono (fun a h => .inl h) keepRefl⟩, ⟨ts, s _ _ h5, (h6.same s).mono (fun a h => .inl h) keepRefl, h7⟩, fun h => ?_, fun h => ?_⟩
  · rcases h with h | h
    · exact w.nr h
    · rw [h1] at h; cases h
  · rcases h with h | h
    · exact w.nl h
    · rw [h5] at h; cases h
end
def spTk (mg : Str → Option Value) (G : D → D → Option (D × Option D)) : Sp := fun vs H Q _ => ∃ (A : Addr → Prop) (r L : Addr) (sp pts : D) (rows : List D) (v1 : V) (d1 res : D) (ro : Option D), vs = [.ref r, v1] ∧ (∀ a, H a = none → A a) ∧ LamX.Tabs LT.T H ∧
  RW mg A H r L sp pts rows ∧ Rep mg A H v1 d1 ∧ G (insR sp pts rows) d1 = some (res, ro) ∧ rows.length < szL ∧
  ∀ v H', SameN L H H' → (∀ b, H' b = none → H b = none) → Keep A H H' → RW mg A H' r L sp pts (rows ++ ro.toList) → Rep mg A H' v res → Q v H'
section
variable {P : Program} {w : World} {K : PySem.W.Frag} {mg : Str → Option Value} {base : Heap}
structure TakeOk (P : Program) (w : World) (K : PySem.W.Frag) (mg : Str → Option Value) (base : Heap) (k : Nat) (G : D → D → Option (D × Option D)) : Prop where
  ex : ∃ C f fd ps, FnOk P w K mg base CX0 k f fd ps (spTk mg G) ∧ mg "Rows" = some (.ref C) ∧ Cls K C ∧ Meth K C "take" f ∧ Binds K fd ps []
structure KeepOk (P : Program) (w : World) (K : PySem.W.Frag) (mg : Str → Option Value) (base : Heap) (k : Nat) (G : D → D → D → Option D) : Prop where
  ex : ∃ C f fd ps, FnOk P w K mg base CX0 k f fd ps (spKp mg G) ∧ mg "Rows" = some (.ref C) ∧ Cls K C ∧ Meth K C "keep" f ∧ Binds K fd ps []
end
end PV

namespace PV
variable [LT] [RT]
open PySem PySem.Spec PyProof.Rows L2
def spRI (mg : Str → Option Value) : Sp := fun vs H Q _ => ∃ (x dx C : Addr) (v1 v2 : V), vs = [.ref x, v1, v2] ∧ H x = some (.ins C dx []) ∧ mg "Rows" = some (.ref C) ∧
  ∀ L H', SameX x H H' → H L = none → L ≠ x → H' L = some (.lst []) → H' x = some (.ins C dx [("space", v1), ("points", v2), ("rows", .ref L)]) → Q .non H'
section
variable {P : Program} {w : World} {K : PySem.W.Frag} {mg : Str → Option Value} {base : Heap}
structure RMakeOk (P : Program) (w : World) (K : PySem.W.Frag) (mg : Str → Option Value) (base : Heap) (k : Nat) : Prop where
  ex : ∃ C f fd ps, FnOk P w K mg base CX0 k f fd ps (spRI mg) ∧ mg "Rows" = some (.ref C) ∧ Mk K C f ∧ Binds K fd ps []
end
structure OL (mg : Str → Option Value) (A : Addr → Prop) (σ : L2.St) (H : Hp) (i : Nat) (a : Addr) (ds : List D) : Prop where
  s : σ[i]? = some (some (.ref a))
  h : ∃ xs, H a = some (.lst xs) ∧ Reps mg A H xs ds
  na : ¬ A a
section
variable {K : PySem.W.Frag} {mg : Str → Option Value} {A : Addr → Prop} {σ : L2.St} {H H1 : Hp} {i : Nat} {a : Addr} {ds : List D} {r L : Addr} {sp pts : D} {rows : List D} {env : DEnv}
theorem OL.heap (o : OL mg A σ H i a ds) (s : Same H H1) : OL mg A σ H1 i a ds := by
  obtain ⟨xs, h1, h2⟩ := o.h
  exact ⟨o.s, ⟨xs, s _ _ h1, h2.same s⟩, o.na⟩
theorem OL.set (o : OL mg A σ H i a ds) {j : Nat} {v : V} (hj : j ≠ i) : OL mg A (σ.set j (some v)) H i a ds := ⟨by rw [List.getElem?_set_ne hj]; exact o.s, o.h, o.na⟩
theorem OL.keep (o : OL mg A σ H i a ds) (k : Keep A H H1) (h : ∀ xs, H a = some (.lst xs) → H1 a = some (.lst xs)) : OL mg A σ H1 i a ds := by
  obtain ⟨xs, h1, h2⟩ := o.h
  exact ⟨o.s, ⟨xs, h _ h1, h2.mono (fun _ z => z) k⟩, o.na⟩
theorem RW.same (w : RW mg A H r L sp pts rows) (s : Same H H1) : RW mg A H1 r L sp pts rows := by
  obtain ⟨C, dx, vs, vp, h1, h2, h3, h4⟩ := w.ex
  obtain ⟨ts, h5, h6, h7⟩ := w.ls
  exact ⟨⟨C, dx, vs, vp, s _ _ h1, h2, h3.same s, h4.same s⟩, ⟨ts, s _ _ h5, h6.same s, h7⟩, w.nr, w.nl⟩
theorem RW.put (w : RW mg A H r L sp pts rows) {b : Addr} {ys : List V} {o' : HO} (hb : ¬ A b) (hH : H b = some (.lst ys)) (hL : L ≠ b) : RW mg A (upd H b o') r L sp pts rows := by
  obtain ⟨C, dx, vs, vp, h1, h2, h3, h4⟩ := w.ex
  obtain ⟨ts, h5, h6, h7⟩ := w.ls
  have k : Keep A H (upd H b o') := keep_out hb hH
  have hr : r ≠ b := fun z => by subst z; rw [h1] at hH; cases hH
  exact ⟨⟨C, dx, vs, vp, by rw [upd_ne hr]; exact h1, h2, h3.mono (fun _ z => z) k, h4.mono (fun _ z => z) k⟩, ⟨ts, by rw [upd_ne hL]; exact h5, h6.mono (fun _ z => z) k, h7⟩, w.nr, w.nl⟩
theorem OL.put (o : OL mg A σ H i a ds) {b : Addr} {ys : List V} {o' : HO} (hb : ¬ A b) (hH : H b = some (.lst ys)) (hab : a ≠ b) : OL mg A σ (upd H b o') i a ds :=
  o.keep (keep_out hb hH) fun xs h => by rw [upd_ne hab]; exact h
theorem VR.keep (v : VR mg A σ H env) (k : Keep A H H1) : VR mg A σ H1 env := ⟨v.len, fun i d e => let ⟨w, h1, h2⟩ := v.vals i d e; ⟨w, h1, h2.mono (fun _ z => z) k⟩, v.pl⟩
end
structure WS (mg : Str → Option Value) (H0 Hw : Hp) (A0 A : Addr → Prop) (r L k f l : Addr) (sp pts : D) (σ : L2.St) (H : Hp) (env : DEnv) (rows kept found leads : List D) : Prop where
  vr : VR mg A σ H env
  tb : LamX.Tabs LT.T H
  rw : RW mg A H r L sp pts rows
  s3 : σ[3]? = some (some (.ref r))
  ok : OL mg A σ H 4 k kept
  of : OL mg A σ H 5 f found
  ol : OL mg A σ H 6 l leads
  kf : k ≠ f
  kl : k ≠ l
  fl : f ≠ l
  kL : k ≠ L
  fL : f ≠ L
  lL : l ≠ L
  fr : ∀ a, H a = none → A a
  sub : ∀ a, A a → A0 a ∨ H0 a = none
  sm : Same H0 H
  z : H0 r = none ∧ H0 L = none ∧ H0 k = none ∧ H0 f = none ∧ H0 l = none
  kw : Keep A Hw H
  l10 : env.length = 10
section
variable {K : PySem.W.Frag} {mg : Str → Option Value} {H0 Hw : Hp} {A0 A : Addr → Prop} {r L k f l : Addr} {sp pts : D} {σ : L2.St} {H H1 : Hp} {env : DEnv} {rows kept found leads : List D}
theorem WS.heap (w : WS mg H0 Hw A0 A r L k f l sp pts σ H env rows kept found leads) (s : Same H H1) : WS mg H0 Hw A0 A r L k f l sp pts σ H1 env rows kept found leads :=
  ⟨w.vr.keep (Same.keep s), s.tabs w.tb, w.rw.same s, w.s3, w.ok.heap s, w.of.heap s, w.ol.heap s, w.kf, w.kl, w.fl, w.kL, w.fL, w.lL, fun a h => w.fr a (s.dom a h), w.sub, w.sm.trans s, w.z, w.kw.trans (Same.keep s), w.l10⟩
theorem WS.set (w : WS mg H0 Hw A0 A r L k f l sp pts σ H env rows kept found leads) {i : Nat} {v : V} {d : D} (hi : i = 7 ∨ i = 8) (rv : Rep mg A H v d) : WS mg H0 Hw A0 A r L k f l sp pts (σ.set i (some v)) H (env.set i (.val d)) rows kept found leads :=
  ⟨w.vr.set rv, w.tb, w.rw, by rw [List.getElem?_set_ne (by omega)]; exact w.s3, w.ok.set (by omega), w.of.set (by omega), w.ol.set (by omega), w.kf, w.kl, w.fl, w.kL, w.fL, w.lL, w.fr, w.sub, w.sm, w.z, w.kw, by rw [List.length_set]; exact w.l10⟩
theorem WS.appK {D' : Ends} (w : WS mg H0 Hw A0 A r L k f l sp pts σ H env rows kept found leads) {j : Nat} {d : D} (hj : env[j]? = some (.val d)) (hz : kept.length < szL) (q : ∀ H', WS mg H0 Hw A0 A r L k f l sp pts σ H' env rows (kept ++ [d]) found leads → D'.nx σ H') :
    (tDrop (tBM K "list" rAppend (tVar 4) (tCons (tVar j) tNil))) D' σ H := by
  obtain ⟨v, h1, h2⟩ := w.vr.vals j d hj
  obtain ⟨xs, hH, rs⟩ := w.ok.h
  have kp : Keep A H (upd H k (.lst (xs ++ [v]))) := keep_out w.ok.na hH
  refine ⟨.ref k, w.ok.s, .inl ⟨rfl, xs, .inl (.inl hH)⟩, v, h1, k, xs, v, rfl, rfl, hH, by rw [rs.len]; exact Nat.lt_of_lt_of_le hz (szL_ok (Nat.le_refl _)), ?_⟩
  refine q _ ⟨w.vr.keep kp, fun p hp => tabS_upd hH trivial (w.tb p hp), w.rw.put w.ok.na hH (Ne.symm w.kL), w.s3, ⟨w.ok.s, ⟨_, upd_same, ?_⟩, w.ok.na⟩, w.of.put w.ok.na hH (Ne.symm w.kf), w.ol.put w.ok.na hH (Ne.symm w.kl), w.kf, w.kl, w.fl, w.kL, w.fL, w.lL, fun a h => w.fr a (dom_upd h), w.sub, w.sm.put w.z.2.2.1 hH trivial, w.z, w.kw.trans kp, w.l10⟩
  exact (rs.mono (fun _ h => h) kp).append (.cons (h2.mono (fun _ h => h) kp) .nil)
end
end PV

namespace PV
variable [LT] [RT]
open PySem PySem.Spec PyProof.Rows L2
end PV

namespace PV
variable [LT] [RT]
open PySem PySem.Spec PyProof.Rows L2
end PV

namespace PV
variable [LT] [RT]
open PySem PySem.Spec PyProof.Rows L2
end PV

namespace PV
variable [LT] [RT]
open PySem PySem.Spec PyProof.Rows L2
end PV

namespace PV
variable [LT] [RT]
open PySem PySem.Spec PyProof.Rows L2
def spW (mg : Str → Option Value) (f : Fn) (j : Nat) : Sp := fun vs H Q _ => ∃ A ds x kept, Fr A H ∧ Reps mg A H vs ds ∧ f ds = some x ∧ getD x (.int (j : Int)) = some (.lst kept) ∧
  ∀ t us p H', Same H H' → H p = none → H' t = some (.tup us) → us[j]? = some (.ref p) → Own mg (fun a => A a ∧ a ≠ p) H' p (.lst kept) → Q (.ref t) H'
section
variable {P : Program} {w : World} {K : PySem.W.Frag} {mg : Str → Option Value} {base : Heap}
structure CallW (P : Program) (w : World) (K : PySem.W.Frag) (mg : Str → Option Value) (base : Heap) (k : Nat) (x : Str) (F : Fn) (j : Nat) : Prop where
  ex : ∃ f fd ps, FnOk P w K mg base CX0 k f fd ps (spW mg F j) ∧ mg x = some (.ref f) ∧ PySem.W.keepIn K (.ref f) = true ∧ Binds K fd ps []
end
end PV

namespace PV
variable [LT] [RT]
open PySem PySem.Spec PyProof.Rows L2
end PV

namespace PV
variable [LT] [RT]
open PySem PySem.Spec PyProof.Rows L2
def spCp3 (mg : Str → Option Value) (c f g h : Str) : Sp := fun vs H Q _ => ∃ (x dx C p : Addr) (u t : V) (ws : List V), vs = [.ref x, u, .ref p, t] ∧ H x = some (.ins C dx []) ∧ mg c = some (.ref C) ∧ p ≠ x ∧ H p = some (.lst ws) ∧
  ∀ q, q ≠ x → H q = none → Q .non (upd (upd (upd (upd H x (.ins C dx [(f, u)])) q (.lst ws)) x (.ins C dx [(f, u), (g, .ref q)])) x (.ins C dx [(f, u), (g, .ref q), (h, t)]))
structure CopyOk3 (P : Program) (w : World) (K : PySem.W.Frag) (mg : Str → Option Value) (base : Heap) (k : Nat) (c f g h : Str) : Prop where
  ex : ∃ C fa fd ps, FnOk P w K mg base CX0 k fa fd ps (spCp3 mg c f g h) ∧ mg c = some (.ref C) ∧ Mk K C fa ∧ Binds K fd ps []
end PV

namespace PV
variable [LT] [RT]
open PySem PySem.Spec PyProof.Rows L2

end PV

namespace PV
variable [LT] [RT]
open PySem PySem.Spec PyProof.Rows L2
end PV

namespace PV
variable [LT] [RT]
open PySem PySem.Spec PyProof.Rows L2
end PV

namespace PV
variable [LT] [RT]
open PySem PySem.Spec PyProof.Rows L2
end PV

namespace PV
open PySem PySem.Spec PyProof.Rows L2
def topS (i : Nat) : Stmt := PySem.Challenge.pw_standingpowers_k40_sets_of_points_as_sys.main.body.getD i (.Pass ⟨0, 0, 0, 0⟩)
def d0 : He.DefD := ⟨("_law_cell", none), "_law_cell", "_law_cell", defArgs (topS 37), defBody (topS 37), defScope (topS 37), [], []⟩
def d1 : He.DefD := ⟨("_law_shape", none), "_law_shape", "_law_shape", defArgs (topS 39), defBody (topS 39), defScope (topS 39), [], []⟩
def d2 : He.DefD := ⟨("_law_names", none), "_law_names", "_law_names", defArgs (topS 40), defBody (topS 40), defScope (topS 40), [], []⟩
def d3 : He.DefD := ⟨("_law_digits", none), "_law_digits", "_law_digits", defArgs (topS 38), defBody (topS 38), defScope (topS 38), [], []⟩
def d4 : He.DefD := ⟨("_law_points", none), "_law_points", "_law_points", defArgs (topS 41), defBody (topS 41), defScope (topS 41), [], []⟩
def d5 : He.DefD := ⟨("_law_made", none), "_law_made", "_law_made", defArgs (topS 42), defBody (topS 42), defScope (topS 42), [], []⟩
def d6 : He.DefD := ⟨("_law_drawn", none), "_law_drawn", "_law_drawn", defArgs (topS 43), defBody (topS 43), defScope (topS 43), [], []⟩
def d7 : He.DefD := ⟨("_law_power_value", none), "_law_power_value", "_law_power_value", defArgs (topS 44), defBody (topS 44), defScope (topS 44), [], []⟩
def d8 : He.DefD := ⟨("_law_value", none), "_law_value", "_law_value", defArgs (topS 45), defBody (topS 45), defScope (topS 45), [], []⟩
def d9 : He.DefD := ⟨("_law_constant", none), "_law_constant", "_law_constant", defArgs (topS 50), defBody (topS 50), defScope (topS 50), [], []⟩
def d10 : He.DefD := ⟨("_law_scaled", none), "_law_scaled", "_law_scaled", defArgs (topS 48), defBody (topS 48), defScope (topS 48), [], []⟩
def d11 : He.DefD := ⟨("_law_plus", none), "_law_plus", "_law_plus", defArgs (topS 47), defBody (topS 47), defScope (topS 47), [], []⟩
def d12 : He.DefD := ⟨("_law_minus", none), "_law_minus", "_law_minus", defArgs (topS 49), defBody (topS 49), defScope (topS 49), [], []⟩
def d13 : He.DefD := ⟨("_law_equations", none), "_law_equations", "_law_equations", defArgs (topS 53), defBody (topS 53), defScope (topS 53), [], []⟩
def d14 : He.DefD := ⟨("is_name", none), "is_name", "is_name", defArgs (topS 13), defBody (topS 13), defScope (topS 13), [], []⟩
def d15 : He.DefD := ⟨("Space", some "__init__"), "__init__", "Space.__init__", defArgs (inClass (topS 18) 0), defBody (inClass (topS 18) 0), defScope (inClass (topS 18) 0), [], []⟩
def d16 : He.DefD := ⟨("System", some "__init__"), "__init__", "System.__init__", defArgs (inClass (topS 26) 0), defBody (inClass (topS 26) 0), defScope (inClass (topS 26) 0), [], []⟩
def d17 : He.DefD := ⟨("_law_solutions", none), "_law_solutions", "_law_solutions", defArgs (topS 54), defBody (topS 54), defScope (topS 54), [], []⟩
def d18 : He.DefD := ⟨("tuples_of", none), "tuples_of", "tuples_of", defArgs (topS 12), defBody (topS 12), defScope (topS 12), [], []⟩
def d19 : He.DefD := ⟨("Space", some "points"), "points", "Space.points", defArgs (inClass (topS 18) 1), defBody (inClass (topS 18) 1), defScope (inClass (topS 18) 1), [], []⟩
def d20 : He.DefD := ⟨("raised_number", none), "raised_number", "raised_number", defArgs (topS 11), defBody (topS 11), defScope (topS 11), [], []⟩
def d21 : He.DefD := ⟨("value_of", none), "value_of", "value_of", defArgs (topS 17), defBody (topS 17), defScope (topS 17), [], []⟩
def d22 : He.DefD := ⟨("value", none), "value", "value", defArgs (topS 21), defBody (topS 21), defScope (topS 21), [], []⟩
def d23 : He.DefD := ⟨("System", some "is_solution"), "is_solution", "System.is_solution", defArgs (inClass (topS 26) 1), defBody (inClass (topS 26) 1), defScope (inClass (topS 26) 1), [], []⟩
def d24 : He.DefD := ⟨("flags_of", none), "flags_of", "flags_of", defArgs (topS 29), defBody (topS 29), defScope (topS 29), [], []⟩
def d25 : He.DefD := ⟨("numbers_of", none), "numbers_of", "numbers_of", defArgs (topS 23), defBody (topS 23), defScope (topS 23), [], []⟩
def d26 : He.DefD := ⟨("from_numbers", none), "from_numbers", "from_numbers", defArgs (topS 20), defBody (topS 20), defScope (topS 20), [], []⟩
def d27 : He.DefD := ⟨("polynomial_of", none), "polynomial_of", "polynomial_of", defArgs (topS 24), defBody (topS 24), defScope (topS 24), [], []⟩
def d28 : He.DefD := ⟨("of_flags", none), "of_flags", "of_flags", defArgs (topS 28), defBody (topS 28), defScope (topS 28), [], []⟩
def d29 : He.DefD := ⟨("mark", none), "mark", "mark", defArgs (topS 30), defBody (topS 30), defScope (topS 30), [], []⟩
def d30 : He.DefD := ⟨("_law_is_tuple_point", none), "_law_is_tuple_point", "_law_is_tuple_point", defArgs (topS 51), defBody (topS 51), defScope (topS 51), [], []⟩
def d31 : He.DefD := ⟨("_law_is_polynomial", none), "_law_is_polynomial", "_law_is_polynomial", defArgs (topS 52), defBody (topS 52), defScope (topS 52), [], []⟩
def d32 : He.DefD := ⟨("_law_table", none), "_law_table", "_law_table", defArgs (topS 46), defBody (topS 46), defScope (topS 46), [], []⟩
def d33 : He.DefD := ⟨("joined", none), "joined", "joined", defArgs (topS 31), defBody (topS 31), defScope (topS 31), [], []⟩
def d34 : He.DefD := ⟨("both", none), "both", "both", defArgs (topS 32), defBody (topS 32), defScope (topS 32), [], []⟩
def d35 : He.DefD := ⟨("joined", none), "joined", "joined", defArgs (topS 31), defBody (topS 31), defScope (topS 31), [], []⟩
def d36 : He.DefD := ⟨("either", none), "either", "either", defArgs (topS 33), defBody (topS 33), defScope (topS 33), [], []⟩
def d37 : He.DefD := ⟨("joined", none), "joined", "joined", defArgs (topS 31), defBody (topS 31), defScope (topS 31), [], []⟩
def d38 : He.DefD := ⟨("without", none), "without", "without", defArgs (topS 34), defBody (topS 34), defScope (topS 34), [], []⟩
def d39 : He.DefD := ⟨("opposite", none), "opposite", "opposite", defArgs (topS 35), defBody (topS 35), defScope (topS 35), [], []⟩
def d40 : He.DefD := ⟨("System", some "solutions"), "solutions", "System.solutions", defArgs (inClass (topS 26) 2), defBody (inClass (topS 26) 2), defScope (inClass (topS 26) 2), [], []⟩
def d41 : He.DefD := ⟨("law", none), "law", "law", defArgs (topS 55), defBody (topS 55), defScope (topS 55), [], []⟩
def fn : List He.DefD := [d0, d1, d2, d3, d4, d5, d6, d7, d8, d9, d10, d11, d12, d13, d14, d15, d16, d17, d18, d19, d20, d21, d22, d23, d24, d25, d26, d27, d28, d29, d30, d31, d32, d33, d34, d35, d36, d37, d38, d39, d40, d41]
def fa0 : List He.Fa := [.free "int", .free "range", .free "list", .free "isinstance", .glo "System", .cls "System", .noat "System" "space", .glo "Space", .cls "Space", .noat "Space" "prime", .noat "Space" "names", .noat "System" "equations", .free "len", .free "all", .free "sum", .free "tuple"]
def fa1 : List He.Fa := [.free "sorted", .glo "PRIMES", .int "MOST_NAMES" 8, .free "set", .glo "MOST_OF_PRIME", .noat "Space" "count", .int "LONGEST_NAME" 12, .str "LETTERS" "abcdefghijklmnopqrstuvwxyz", .str "DIGITS" "0123456789", .free "zip", .free "dict", .glo "_law_cell", .glo "_law_shape", .glo "_law_names", .glo "_law_digits", .glo "_law_points"]
def fa2 : List He.Fa := [.glo "_law_made", .glo "_law_drawn", .glo "_law_power_value", .glo "_law_value", .glo "_law_constant", .glo "_law_scaled", .glo "_law_plus", .glo "_law_minus", .glo "_law_equations", .glo "is_name", .mkr "Space", .mkr "System", .glo "_law_solutions", .glo "tuples_of", .meth "Space" "points", .glo "raised_number"]
def fa3 : List He.Fa := [.glo "value_of", .glo "value", .meth "System" "is_solution", .glo "flags_of", .glo "numbers_of", .glo "from_numbers", .glo "polynomial_of", .glo "of_flags", .glo "mark", .glo "_law_is_tuple_point", .glo "_law_is_polynomial", .glo "_law_table", .glo "joined", .glo "both", .glo "either", .glo "without"]
def fa4 : List He.Fa := [.glo "opposite", .meth "System" "solutions", .glo "law"]
def fa : List He.Fa := fa0 ++ (fa1 ++ (fa2 ++ (fa3 ++ (fa4))))
def ls : List PySem.Str := ["both", "either", "without"]
def exl : List (PySem.W.Frag → Bool) := [isiB "System", tupIB "PRIMES" [2, 3, 5, 7], tabIB "MOST_OF_PRIME" [(2, 8), (3, 5), (5, 3), (7, 2)], noLst]
def loo0 : List PySem.Str := ["_wall", "__name__", "PowersError", "InvalidSpace", "PRIMES", "LETTERS", "DIGITS", "LONGEST_NAME", "MOST_NAMES", "MOST_OF_PRIME", "raised_number", "tuples_of", "is_name", "degree_of", "key_of", "ascending"]
def loo1 : List PySem.Str := ["value_of", "Space", "from_numbers", "value", "numbers_of", "polynomial_of", "System", "of_flags", "flags_of", "mark", "joined", "both", "either", "without", "opposite", "_law_cell"]
def loo2 : List PySem.Str := ["_law_digits", "_law_shape", "_law_names", "_law_points", "_law_made", "_law_drawn", "_law_power_value", "_law_value", "_law_table", "_law_plus", "_law_scaled", "_law_minus", "_law_constant", "_law_is_tuple_point", "_law_is_polynomial", "_law_equations"]
def loo3 : List PySem.Str := ["_law_solutions"]
def loose : List PySem.Str := loo0 ++ loo1 ++ loo2 ++ loo3

end PV

namespace PV
open PySem PySem.Spec PyProof.Rows L2
abbrev R : PySem.W.OpenRow := PySem.W.OpenLaw.row PySem.Challenge.rw_standingpowers_k40_sets_of_points_as_sys
abbrev hk : PySem.W.Hook := hookT 4 fa fn exl ls
def ob (s : PySem.W.SharedT) : He.AlD := obsTG 4 fa fn exl ls (HandSHeadRun.getT s)
theorem ob_eq (s : PySem.W.SharedT) : ob s = hk.obs s.abs := obsTG_eq (HandSHeadRun.getT_eq s)
theorem runT (w : World) : HandSHeadRun.RunEq R (PySem.W.view R.prog [55]) hk ob 5000 loose (w.withFollow "special-get-raises" true) := by
  intro os
  kernel_rfl
theorem runF (w : World) : HandSHeadRun.RunEq R (PySem.W.view R.prog [55]) hk ob 5000 loose (w.withFollow "special-get-raises" false) := by
  intro os
  kernel_rfl
theorem run (w : World) : HandSHeadRun.RunEq R (PySem.W.view R.prog [55]) hk ob 5000 loose w :=
  PySem.W.byRow2 "special-get-raises" (P := fun w => HandSHeadRun.RunEq R (PySem.W.view R.prog [55]) hk ob 5000 loose w) runF runT w
end PV

namespace PV
variable [LT] [RT]
open PySem PySem.Spec PyProof.Rows L2
end PV

namespace PV
variable [LT] [RT]
open PySem PySem.Spec PyProof.Rows L2
end PV

namespace PV
variable [LT] [RT]
open PySem PySem.Spec PyProof.Rows L2
instance {P : Program} {w : World} {a : Addr} {L : List (Addr × List Int)} : NT (SetTO P w a L) := ⟨fun _ h => nomatch h⟩
end PV

namespace PV
variable [LT] [RT]
open PySem PySem.Spec PyProof.Rows L2
end PV

namespace PV
variable [LT] [RT]
open PySem PySem.Spec PyProof.Rows L2
abbrev Drow := List D × List D
theorem keep_outD {A : Addr → Prop} {H : Hp} {b : Addr} {kvs : List (List Key × V)} {o' : HO} (hb : ¬ A b) (hH : H b = some (.dT kvs)) : Keep A H (upd H b o') := by
  have ne : ∀ {a}, A a → a ≠ b := fun ha z => hb (z ▸ ha)
  refine ⟨fun a u ha _ r => ?_, fun a C dx fs ha e => ?_, fun a xs ha e => ?_, fun a xs e => ?_, fun a ob xs e => ?_⟩
  · rcases r with r | ⟨o, r⟩
    · exact .inl (by rw [upd_ne (ne ha)]; exact r)
    · exact .inr ⟨o, by rw [upd_ne (ne ha)]; exact r⟩
  · rw [upd_ne (ne ha)]; exact e
  · rw [upd_ne (ne ha)]; exact e
  · rw [upd_ne (fun z => by subst z; rw [hH] at e; cases e)]; exact e
  · rw [upd_ne (fun z => by subst z; rw [hH] at e; cases e)]; exact e
structure TD (mg : Str → Option Value) (A : Addr → Prop) (H : Hp) (a : Addr) (bs : List Addr) (rows : List Drow) : Prop where
  ha : H a = some (.lst (bs.map V.ref))
  na : ¬ A a
  nd : bs.Nodup
  nab : a ∉ bs
  len : bs.length = rows.length
  row : ∀ (j : Nat) (b : Addr) (r : Drow), bs[j]? = some b → rows[j]? = some r → ¬ A b ∧ ∃ kvs : List (List Key × V), H b = some (.dT kvs) ∧ Reps mg A H (kvs.map (·.2)) r.2 ∧ r.1 = kvs.map fun p => .tup (p.1.map kD)
section
variable {mg : Str → Option Value} {A : Addr → Prop} {H H1 : Hp} {a : Addr} {bs : List Addr} {rows : List Drow}
theorem TD.heap (t : TD mg A H a bs rows) (s : Same H H1) : TD mg (grown A H) H1 a bs rows := by
  refine ⟨s _ _ t.ha, fun h => ?_, t.nd, t.nab, t.len, fun j b r hb hr => ?_⟩
  · rcases h with h | h
    · exact t.na h
    · rw [t.ha] at h; cases h
  · obtain ⟨h1, kvs, h2, h3, h4⟩ := t.row j b r hb hr
    refine ⟨fun h => ?_, kvs, s _ _ h2, (h3.same s).mono (fun a h => .inl h) keepRefl, h4⟩
    rcases h with h | h
    · exact h1 h
    · rw [h2] at h; cases h
theorem TD.put (t : TD mg A H a bs rows) {j : Nat} {b : Addr} {r : Drow} {kvs : List (List Key × V)} {k : List Key} {v : V} {d : D} (hb : bs[j]? = some b) (hr : rows[j]? = some r) (hH : H b = some (.dT kvs)) (rs : Reps mg A H (kvs.map (·.2)) r.2) (rk : r.1 = kvs.map fun p => .tup (p.1.map kD)) (rv : Rep mg A H v d) :
    TD mg A (upd H b (.dT (L2.putK kvs k v))) a bs (rows.set j (dput r.1 r.2 (.tup (k.map kD)) d)) := by
  have hbA := (t.row j b r hb hr).1
  have kp : Keep A H (upd H b (.dT (L2.putK kvs k v))) := keep_outD hbA hH
  have hab : a ≠ b := fun z => t.nab (z ▸ List.mem_of_getElem? hb)
  have hj : j < rows.length := (List.getElem?_eq_some_iff.mp hr).1
  refine ⟨by rw [upd_ne hab]; exact t.ha, t.na, t.nd, t.nab, by rw [List.length_set]; exact t.len, fun i c r' hc hr' => ?_⟩
  by_cases e : i = j
  · subst e
    rw [hb] at hc
    cases hc
    rw [List.getElem?_set_self hj] at hr'
    cases hr'
    obtain ⟨z1, z2⟩ := dput_put eqv_kT (k := k) rv rs
    rw [rk]
    exact ⟨hbA, _, upd_same, z2.mono (fun _ h => h) kp, z1.symm⟩
  · rw [List.getElem?_set_ne (Ne.symm e)] at hr'
    obtain ⟨h1, zs, h2, h3, h4⟩ := t.row i c r' hc hr'
    have hcb : c ≠ b := fun z => by
      subst z
      exact e (nodup_get t.nd hc hb)
    exact ⟨h1, zs, by rw [upd_ne hcb]; exact h2, h3.mono (fun _ h => h) kp, h4⟩
theorem TD.rep (t : TD mg A H a bs rows) : Rep mg (fun x => A x ∨ x = a ∨ x ∈ bs) H (.ref a) (.lst (rows.map fun r => D.dic true r.1 r.2)) := by
  refine .lst (.inr (.inl rfl)) t.ha ?_
  have : ∀ (cs : List Addr) (rs : List Drow), cs.length = rs.length → (∀ (j : Nat) b r, cs[j]? = some b → rs[j]? = some r → b ∈ bs ∧ ∃ kvs : List (List Key × V), H b = some (.dT kvs) ∧ Reps mg A H (kvs.map (·.2)) r.2 ∧ r.1 = kvs.map fun p => .tup (p.1.map kD)) → Reps mg (fun x => A x ∨ x = a ∨ x ∈ bs) H (cs.map V.ref) (rs.map fun r => D.dic true r.1 r.2) := fun cs => by
    induction cs with
    | nil =>
      intro rs hl _
      cases rs with
      | nil => exact .nil
      | cons => cases hl
    | cons c cs ih =>
      intro rs hl h
      cases rs with
      | nil => cases hl
      | cons r rs =>
        obtain ⟨h1, ys, h2, h3, h4⟩ := h 0 c r rfl rfl
        refine .cons ?_ (ih rs (by simpa using hl) fun j b r' hb hr => h (j + 1) b r' hb hr)
        show Rep mg _ H (.ref c) (D.dic true r.1 r.2)
        rw [h4]
        exact .dicT (.inr (.inr h1)) (.inl h2) (h3.mono (fun _ z => .inl z) keepRefl)
  exact this bs rows t.len fun j b r hb hr => ⟨List.mem_of_getElem? hb, (t.row j b r hb hr).2⟩
end
structure FD (mg : Str → Option Value) (H0 : Hp) (A0 : Addr → Prop) (Ks : List ((Addr → Prop) × Hp)) (a : Addr) (bs : List Addr) (A : Addr → Prop) (σ : L2.St) (H : Hp) (env : DEnv) (rows : List Drow) : Prop where
  vr : VR mg A σ H env
  tb : LamX.Tabs LT.T H
  t : TD mg A H a bs rows
  s4 : σ[4]? = some (some (.ref a))
  e4 : env[4]? = some .no
  sub : ∀ x, A x → A0 x ∨ H0 x = none
  sm : Same H0 H
  fa : H0 a = none
  fb : ∀ b ∈ bs, H0 b = none
  l11 : env.length = 11
  kw : ∀ p ∈ Ks, (∀ x, p.1 x → A x) ∧ Keep p.1 p.2 H
section
variable {K : PySem.W.Frag} {mg : Str → Option Value} {H0 : Hp} {A0 A : Addr → Prop} {Ks : List ((Addr → Prop) × Hp)} {a : Addr} {bs : List Addr} {σ : L2.St} {H H1 : Hp} {env : DEnv} {rows : List Drow}
theorem FD.heap (f : FD mg H0 A0 Ks a bs A σ H env rows) (s : Same H H1) : FD mg H0 A0 Ks a bs (grown A H) σ H1 env rows :=
  ⟨f.vr.heap s, s.tabs f.tb, f.t.heap s, f.s4, f.e4, fun x h => h.elim (f.sub x) fun z => .inr (f.sm.dom x z), f.sm.trans s, f.fa, f.fb, f.l11, fun p hp => ⟨fun x h => .inl ((f.kw p hp).1 x h), (f.kw p hp).2.trans (Same.keep s)⟩⟩
theorem FD.set (f : FD mg H0 A0 Ks a bs A σ H env rows) {i : Nat} {v : V} {d : D} (rv : Rep mg A H v d) (h4 : i ≠ 4) : FD mg H0 A0 Ks a bs A (σ.set i (some v)) H (env.set i (.val d)) rows :=
  ⟨f.vr.set rv, f.tb, f.t, by rw [List.getElem?_set_ne h4]; exact f.s4, by rw [List.getElem?_set_ne h4]; exact f.e4, f.sub, f.sm, f.fa, f.fb, by rw [List.length_set]; exact f.l11, f.kw⟩
theorem FD.put (f : FD mg H0 A0 Ks a bs A σ H env rows) {j : Nat} {b : Addr} {r : Drow} {kvs : List (List Key × V)} {k : List Key} {v : V} {d : D} (hb : bs[j]? = some b) (hr : rows[j]? = some r) (hH : H b = some (.dT kvs)) (rs : Reps mg A H (kvs.map (·.2)) r.2) (rk : r.1 = kvs.map fun p => .tup (p.1.map kD)) (rv : Rep mg A H v d) :
    FD mg H0 A0 Ks a bs A σ (upd H b (.dT (L2.putK kvs k v))) env (rows.set j (dput r.1 r.2 (.tup (k.map kD)) d)) := by
  have hbA := (f.t.row j b r hb hr).1
  have kp : Keep A H (upd H b (.dT (L2.putK kvs k v))) := keep_outD hbA hH
  refine ⟨⟨f.vr.len, fun i d' e => ?_, f.vr.pl⟩, fun p hp => tabS_upd hH trivial (f.tb p hp), f.t.put hb hr hH rs rk rv, f.s4, f.e4, f.sub, f.sm.put (f.fb b (List.mem_of_getElem? hb)) hH trivial, f.fa, f.fb, f.l11, fun p hp => ⟨(f.kw p hp).1, (f.kw p hp).2.trans (kp.sub (f.kw p hp).1)⟩⟩
  obtain ⟨w, h1, h2⟩ := f.vr.vals i _ e
  exact ⟨w, h1, h2.mono (fun _ h => h) kp⟩
theorem FD.more {P : Addr → Prop} (f : FD mg H0 A0 Ks a bs A σ H env rows) (h : ∀ x, P x → A x) : FD mg H0 A0 ((P, H) :: Ks) a bs A σ H env rows := ⟨f.vr, f.tb, f.t, f.s4, f.e4, f.sub, f.sm, f.fa, f.fb, f.l11, fun p hp => by
  rcases List.mem_cons.mp hp with rfl | hp
  · exact ⟨h, keepRefl⟩
  · exact f.kw p hp⟩
end
end PV

namespace PV
variable [LT] [RT]
open PySem PySem.Spec PyProof.Rows L2
end PV

namespace PV
variable [LT] [RT]
open PySem PySem.Spec PyProof.Rows L2
end PV

namespace PV
variable [LT] [RT]
open PySem PySem.Spec PyProof.Rows L2
end PV

namespace PV
variable [LT] [RT]
open PySem PySem.Spec PyProof.Rows L2
end PV

namespace PV
variable [LT] [RT]
open PySem PySem.Spec PyProof.Rows L2
end PV

namespace PV
variable [LT] [RT]
open PySem PySem.Spec PyProof.Rows L2
def spCpM (mg : Str → Option Value) (c f g h c2 k : Str) : Sp := fun vs H Q _ => ∃ (x dx C p y C2 dy : Addr) (fs2 : List (Str × V)) (t : V) (ws : List V), vs = [.ref x, .ref y, .ref p] ∧ H x = some (.ins C dx []) ∧ mg c = some (.ref C) ∧ p ≠ x ∧ H p = some (.lst ws) ∧ y ≠ x ∧ H y = some (.ins C2 dy fs2) ∧ mg c2 = some (.ref C2) ∧ fs2.lookup k = some t ∧
  ∀ q, q ≠ x → H q = none → Q .non (upd (upd (upd (upd H x (.ins C dx [(f, .ref y)])) q (.lst ws)) x (.ins C dx [(f, .ref y), (g, .ref q)])) x (.ins C dx [(f, .ref y), (g, .ref q), (h, t)]))
structure CopyOkM (P : Program) (w : World) (K : PySem.W.Frag) (mg : Str → Option Value) (base : Heap) (k : Nat) (c f g h c2 k2 : Str) : Prop where
  ex : ∃ C fa fd ps, FnOk P w K mg base CX0 k fa fd ps (spCpM mg c f g h c2 k2) ∧ mg c = some (.ref C) ∧ Mk K C fa ∧ Binds K fd ps []
end PV

namespace PV
variable [LT] [RT]
open PySem PySem.Spec PyProof.Rows L2
end PV

namespace PV
variable [LT] [RT]
open PySem PySem.Spec PyProof.Rows L2
end PV

namespace PV
variable [LT] [RT]
open PySem PySem.Spec PyProof.Rows L2
end PV

namespace PV
variable [LT] [RT]
open PySem PySem.Spec PyProof.Rows L2
end PV

namespace PV
variable [LT] [RT]
open PySem PySem.Spec PyProof.Rows L2
section
variable {K : PySem.W.Frag} {mg : Str → Option Value} {B : Bs} {O : Nat → Option Addr} {env : DEnv} {σ : L2.St} {H : Hp} {d : Addr} {kvs : List (List Key × V)}
structure LockOk (B : Bs) (d : Addr) : Prop where
  at_ : ∀ o, B.H0 d = some o → (∀ ps, o ≠ .tbl ps) → ∃ k, o = .dT k
  tb_ : ∀ p ∈ LT.T, p.1 ≠ d
end
end PV

namespace PV
variable [LT] [RT]
open PySem PySem.Spec PyProof.Rows L2
end PV

namespace PV
variable [LT] [RT]
open PySem PySem.Spec PyProof.Rows L2
structure EqSep (e z TI TO i1 i2 : Addr) : Prop where
  all : e ≠ z ∧ e ≠ TI ∧ e ≠ TO ∧ e ≠ i1 ∧ e ≠ i2
end PV

namespace PV
variable [LT] [RT]
open PySem PySem.Spec PyProof.Rows L2
end PV

namespace PV
variable [LT] [RT]
open PySem PySem.Spec PyProof.Rows L2
end PV

namespace PV
variable [LT] [RT]
open PySem PySem.Spec PyProof.Rows L2
def spS (mg : Str → Option Value) (j : Nat) (F : Fn) : Sp := fun vs H Q _ => ∃ (A : Addr → Prop) (vs1 vs2 : List V) (n : Addr) (xs ys : List D) (dn r dn' : D), vs = vs1 ++ .ref n :: vs2 ∧ vs1.length = j ∧ ¬ A n ∧ (∀ a, H a = none → A a) ∧ LamX.Tabs LT.T H ∧ Reps mg A H vs1 xs ∧ Reps mg A H vs2 ys ∧ Own mg A H n dn ∧ F (xs ++ dn :: ys) = some (.tup [r, dn']) ∧
  ∀ v H', SameN n H H' → Rep mg A H' v r → Own mg A H' n dn' → Q v H'
section
variable {P : Program} {w : World} {K : PySem.W.Frag} {mg : Str → Option Value} {base : Heap}
structure CallS (P : Program) (w : World) (K : PySem.W.Frag) (mg : Str → Option Value) (base : Heap) (k : Nat) (x : Str) (j : Nat) (F : Fn) : Prop where
  ex : ∃ f fd ps, FnOk P w K mg base CX0 k f fd ps (spS mg j F) ∧ mg x = some (.ref f) ∧ PySem.W.keepIn K (.ref f) = true ∧ Binds K fd ps []
theorem CallS.up {j k l : Nat} {x : Str} {F : Fn} (c : CallS P w K mg base j x l F) (h : j ≤ k) : CallS P w K mg base k x l F :=
  let ⟨f, fd, ps, a, b, c, d⟩ := c.ex; ⟨f, fd, ps, a.mono h, b, c, d⟩
end
end PV

namespace PV
variable [LT] [RT]
open PySem PySem.Spec PyProof.Rows L2
end PV

namespace PV
variable [LT] [RT]
open PySem PySem.Spec PyProof.Rows L2
end PV

namespace PV
variable [LT] [RT]
open PySem PySem.Spec PyProof.Rows L2
section
variable {P : Program} {w : World} {K : PySem.W.Frag} {mg : Str → Option Value} {base : Heap}
structure MethS (P : Program) (w : World) (K : PySem.W.Frag) (mg : Str → Option Value) (base : Heap) (k : Nat) (c m : Str) (F : Fn) : Prop where
  ex : ∃ C f fd ps, FnOk P w K mg base CX0 k f fd ps (spS mg 0 F) ∧ mg c = some (.ref C) ∧ Cls K C ∧ Meth K C m f ∧ Binds K fd ps []
theorem MethS.up {j k : Nat} {c m : Str} {F : Fn} (g : MethS P w K mg base j c m F) (h : j ≤ k) : MethS P w K mg base k c m F :=
  let ⟨C, f, fd, ps, a, b, d⟩ := g.ex; ⟨C, f, fd, ps, a.mono h, b, d⟩
end
end PV

namespace PV
variable [LT] [RT]
open PySem PySem.Spec PyProof.Rows L2
end PV

namespace PV
variable [LT] [RT]
open PySem PySem.Spec PyProof.Rows L2
end PV

namespace PV
variable [LT] [RT]
open PySem PySem.Spec PyProof.Rows L2
end PV

namespace PV
variable [LT] [RT]
open PySem PySem.Spec PyProof.Rows L2
end PV

namespace PV
variable [LT] [RT]
open PySem PySem.Spec PyProof.Rows L2
end PV

namespace PV
variable [LT] [RT]
open PySem PySem.Spec PyProof.Rows L2
end PV

namespace PV
variable [LT] [RT]
open PySem PySem.Spec PyProof.Rows L2
end PV

namespace PV
variable [LT] [RT]
open PySem PySem.Spec PyProof.Rows L2
section
variable {X : Cx} {τ : Bool} {W : WX} {ce : Value}
theorem PS.or {s : Stmt} {t u : TS} (h1 : PS X s t) (h2 : PS X s u) : PS X s (fun D σ H => t D σ H ∨ u D σ H) := ⟨fun pins s σ H D I h => h.elim (h1.run pins s σ H D I) (h2.run pins s σ H D I)⟩
end
def spIR (mg : Str → Option Value) (c : Str) (ce : Value) (g : List D → Bool) : Sp := fun vs H _ E => ∃ (x dx C : Addr) (us : List V) (A : Addr → Prop) (ds : List D), vs = .ref x :: us ∧ H x = some (.ins C dx []) ∧ mg c = some (.ref C) ∧ Fr A H ∧
  Reps mg (fun a => A a ∧ a ≠ x) H us ds ∧ g ds = true ∧ ∀ H', SameX x H H' → E ce none H'
end PV

namespace PV
variable [LT] [RT]
open PySem PySem.Spec PyProof.Rows L2
section
variable {X : Cx} {τ : Bool} {W : WX} {ce : Value}
structure MakeR (P : Program) (w : World) (K : PySem.W.Frag) (mg : Str → Option Value) (base : Heap) (k : Nat) (c : Str) (ce : Value) (g : List D → Bool) : Prop where
  ex : ∃ C f fd ps, FnOk P w K mg base (L2.CX P w) k f fd ps (spIR mg c ce g) ∧ mg c = some (.ref C) ∧ Mk K C f ∧ Binds K fd ps []
end
end PV

namespace PV
variable [LT] [RT]
open PySem PySem.Spec PyProof.Rows L2
end PV

namespace PV
variable [LT] [RT]
open PySem PySem.Spec PyProof.Rows L2
structure SameXN (x p : Addr) (H H' : Hp) : Prop where
  stay : ∀ (b : Addr) (o : HO), b ≠ x → b ≠ p → H b = some o → [NT o] → H' b = some o
  tab : LamX.Tabs LT.T H → LamX.Tabs LT.T H'
  dom : ∀ b, b ≠ p → H' b = none → H b = none
def spIO (mg : Str → Option Value) (c : Str) (F : Fn) : Sp := fun vs H Q _ => ∃ (x dx C p : Addr) (v1 : V) (A : Addr → Prop) (d1 : D) (xs : List V) (ds : List D) (fs : List Str) (ys : List D) (dn : D), vs = [.ref x, v1, .ref p] ∧ H x = some (.ins C dx []) ∧ mg c = some (.ref C) ∧ x ≠ p ∧ Fr A H ∧
  Rep mg (fun a => A a ∧ a ≠ x ∧ a ≠ p) H v1 d1 ∧ H p = some (.lst xs) ∧ Reps mg (fun a => A a ∧ a ≠ x ∧ a ≠ p) H xs ds ∧ F [d1, .lst ds] = some (.tup [.ins c fs ys, dn]) ∧ ∀ H', SameXN x p H H' → Own mg (fun a => A a ∧ a ≠ x ∧ a ≠ p) H' x (.ins c fs ys) → Own mg (fun a => A a ∧ a ≠ x ∧ a ≠ p) H' p dn → Q .non H'
end PV

namespace PV
variable [LT] [RT]
open PySem PySem.Spec PyProof.Rows L2
structure MakeO (P : Program) (w : World) (K : PySem.W.Frag) (mg : Str → Option Value) (base : Heap) (k : Nat) (c : Str) (F : Fn) : Prop where
  ex : ∃ C f fd ps, FnOk P w K mg base CX0 k f fd ps (spIO mg c F) ∧ mg c = some (.ref C) ∧ Mk K C f ∧ Binds K fd ps []
end PV

namespace PV
variable [LT] [RT]
open PySem PySem.Spec PyProof.Rows L2
end PV

namespace PySem
open Sem (wp)
end PySem
namespace PySem
open Sem (wp)
end PySem

namespace PV
variable [LT] [RT]
open PySem PySem.Spec PyProof.Rows L2
end PV

namespace PV
variable [LT] [RT]
open PySem PySem.Spec PyProof.Rows L2
structure TBX (K : PySem.W.Frag) (w : World) (x : Str) : Prop where
  ok : ∃ es n, KDict K w (He.ga K x) es n
end PV

namespace PV
variable [LT] [RT]
open PySem PySem.Spec PyProof.Rows L2
structure CpL (H : Hp) (x C dx : Addr) (f g h : Str) (w1 w2 w3 : List V) (z1 z2 z3 : Addr) (H' : Hp) : Prop where
  at_ : H' x = some (.ins C dx [(f, .ref z1), (g, .ref z2), (h, .ref z3)])
  l1 : H' z1 = some (.lst w1)
  l2 : H' z2 = some (.lst w2)
  l3 : H' z3 = some (.lst w3)
  n1 : H z1 = none
  n2 : H z2 = none
  n3 : H z3 = none
  stay : ∀ b o, b ≠ x → H b = some o → H' b = some o
def spCpL (mg : Str → Option Value) (c f g h : Str) : Sp := fun vs H Q _ => ∃ (x dx C p1 p2 p3 : Addr) (w1 w2 w3 : List V), vs = [.ref x, .ref p1, .ref p2, .ref p3] ∧ H x = some (.ins C dx []) ∧ mg c = some (.ref C) ∧ (p1 ≠ x ∧ p2 ≠ x ∧ p3 ≠ x) ∧ (H p1 = some (.lst w1) ∧ H p2 = some (.lst w2) ∧ H p3 = some (.lst w3)) ∧
  ∀ z1 z2 z3 H', CpL H x C dx f g h w1 w2 w3 z1 z2 z3 H' → Q .non H'
structure CopyOkL (P : Program) (w : World) (K : PySem.W.Frag) (mg : Str → Option Value) (base : Heap) (k : Nat) (c f g h : Str) : Prop where
  ex : ∃ C fa fd ps, FnOk P w K mg base CX0 k fa fd ps (spCpL mg c f g h) ∧ mg c = some (.ref C) ∧ Mk K C fa ∧ Binds K fd ps []
end PV

namespace PV
variable [LT] [RT]
open PySem PySem.Spec PyProof.Rows L2
section
variable {K : PySem.W.Frag} {mg : Str → Option Value} {B : Bs} {O : Nat → Option Addr} {σ : L2.St} {H H2 : Hp} {env : DEnv}
theorem ERel.paint (r : ERel K mg B O σ H env) {i : Nat} (h : env[i]? = some .no) (x : Option V) : ERel K mg B O (σ.set i x) H env := by
  have ne : ∀ {j : Nat} {y : DSlot}, env[j]? = some y → y ≠ .no → i ≠ j := fun {j y} e hy z => by
    subst z
    rw [h] at e
    exact hy (Option.some.inj e).symm
  refine ⟨by simp [r.len], r.same, fun j d e => ?_, fun j d e => ?_, fun j d e => ?_, r.inj, r.trk, r.fr0, r.bd, r.nst⟩
  · rw [List.getElem?_set_ne (ne e (by simp))]; exact r.vals j d e
  · rw [List.getElem?_set_ne (ne e (by simp))]; exact r.owns j d e
  · rw [List.getElem?_set_ne (ne e (by simp))]; exact r.slfs j d e
end
end PV

namespace PV
variable [LT] [RT]
open PySem PySem.Spec PyProof.Rows L2
end PV

namespace PV
variable [LT] [RT]
open PySem PySem.Spec PyProof.Rows L2
end PV

namespace PV
variable [LT] [RT]
open PySem PySem.Spec PyProof.Rows L2
end PV

namespace PV
variable [LT] [RT]
open PySem PySem.Spec PyProof.Rows L2
abbrev PSt := List (D × List D) × List D
def papRows (rows : List (D × List D)) : D := .lst (rows.map fun r => .tup [r.1, .lst r.2])
end PV

namespace PV
variable [LT] [RT]
open PySem PySem.Spec PyProof.Rows L2
abbrev Trw := Addr × V × Addr
structure PW2 (mg : Str → Option Value) (A : Addr → Prop) (H : Hp) (a pp : Addr) (ts : List Trw) (s : PSt) : Prop where
  ha : H a = some (.lst (ts.map fun t => V.ref t.1))
  na : ¬ A a
  hp : ∃ us, H pp = some (.lst us) ∧ Reps mg A H us s.2
  np : ¬ A pp
  nb : ∀ t ∈ ts, ¬ A t.2.2
  nd : (a :: pp :: ts.map (·.2.2)).Nodup
  len : ts.length = s.1.length
  row : ∀ (j : Nat) (t : Trw) (r : D × List D), ts[j]? = some t → s.1[j]? = some r → H t.1 = some (.tup [t.2.1, .ref t.2.2]) ∧ Rep mg A H t.2.1 r.1 ∧ ∃ us, H t.2.2 = some (.lst us) ∧ Reps mg A H us r.2
section
variable {mg : Str → Option Value} {A A' : Addr → Prop} {H H1 : Hp} {a pp : Addr} {ts : List Trw} {s : PSt}
theorem PW2.bLst (t : PW2 mg A H a pp ts s) {u : Trw} (hu : u ∈ ts) : ∃ us, H u.2.2 = some (.lst us) := by
  obtain ⟨j, hj⟩ := List.mem_iff_getElem?.mp hu
  have hl : j < s.1.length := by rw [← t.len]; exact (List.getElem?_eq_some_iff.mp hj).1
  obtain ⟨_, _, us, h, _⟩ := t.row j u _ hj (List.getElem?_eq_getElem hl)
  exact ⟨us, h⟩
theorem PW2.same (t : PW2 mg A H a pp ts s) (sm : Same H H1) (sub : ∀ x, A x → (∃ o, H x = some o) → A' x) (out : ∀ x, A' x → A x ∨ H x = none) : PW2 mg A' H1 a pp ts s := by
  have no : ∀ {x}, ¬ A x → (∃ o, H x = some o) → ¬ A' x := fun h ⟨o, ho⟩ z => by
    rcases out _ z with y | y
    · exact h y
    · rw [y] at ho; cases ho
  obtain ⟨us, h1, h2⟩ := t.hp
  refine ⟨sm _ _ t.ha, no t.na ⟨_, t.ha⟩, ⟨us, sm _ _ h1, (Reps.keepT sub h2).same sm⟩, no t.np ⟨_, h1⟩, fun u hu => ?_, t.nd, t.len, fun j u r hu hr => ?_⟩
  · obtain ⟨ws, h⟩ := t.bLst hu
    exact no (t.nb u hu) ⟨_, h⟩
  · obtain ⟨g1, g2, ws, g3, g4⟩ := t.row j u r hu hr
    exact ⟨sm _ _ g1, (Rep.keepT sub g2).same sm, ws, sm _ _ g3, (Reps.keepT sub g4).same sm⟩
theorem PW2.rep (t : PW2 mg A H a pp ts s) : Rep mg (fun x => A x ∨ x = a ∨ x = pp ∨ x ∈ ts.map (·.2.2)) H (.ref a) (papRows s.1) ∧ Rep mg (fun x => A x ∨ x = a ∨ x = pp ∨ x ∈ ts.map (·.2.2)) H (.ref pp) (.lst s.2) := by
  obtain ⟨us, h1, h2⟩ := t.hp
  refine ⟨.lst (.inr (.inl rfl)) t.ha ?_, .lst (.inr (.inr (.inl rfl))) h1 (h2.mono (fun _ h => .inl h) keepRefl)⟩
  have : ∀ (cs : List Trw) (rs : List (D × List D)), cs.length = rs.length → (∀ (j : Nat) u r, cs[j]? = some u → rs[j]? = some r → u ∈ ts ∧ H u.1 = some (.tup [u.2.1, .ref u.2.2]) ∧ Rep mg A H u.2.1 r.1 ∧ ∃ us, H u.2.2 = some (.lst us) ∧ Reps mg A H us r.2) → Reps mg (fun x => A x ∨ x = a ∨ x = pp ∨ x ∈ ts.map (·.2.2)) H (cs.map fun t => V.ref t.1) (rs.map fun r => D.tup [r.1, .lst r.2]) := fun cs => by
    induction cs with
    | nil =>
      intro rs hl _
      cases rs with
      | nil => exact .nil
      | cons => cases hl
    | cons c cs ih =>
      intro rs hl h
      cases rs with
      | nil => cases hl
      | cons r rs =>
        obtain ⟨m, g1, g2, ws, g3, g4⟩ := h 0 c r rfl rfl
        refine .cons (.tup g1 (.cons (g2.mono (fun _ h => .inl h) keepRefl) (.cons (.lst (.inr (.inr (.inr (List.mem_map.mpr ⟨c, m, rfl⟩)))) g3 (g4.mono (fun _ h => .inl h) keepRefl)) .nil))) (ih rs (by simpa using hl) fun j u r' hu hr => h (j + 1) u r' hu hr)
  exact this ts s.1 t.len fun j u r hu hr => ⟨List.mem_of_getElem? hu, t.row j u r hu hr⟩
theorem PW2.point (t : PW2 mg A H a pp ts s) {us : List V} {v : V} {d : D} (hH : H pp = some (.lst us)) (rs : Reps mg A H us s.2) (rv : Rep mg A H v d) : PW2 mg A (upd H pp (.lst (us ++ [v]))) a pp ts (s.1, s.2 ++ [d]) := by
  have kp : Keep A H (upd H pp (.lst (us ++ [v]))) := keep_out t.np hH
  have nd := t.nd
  simp only [List.nodup_cons, List.mem_cons, not_or] at nd
  refine ⟨by rw [upd_ne nd.1.1]; exact t.ha, t.na, ⟨_, upd_same, (rs.append (.cons rv .nil)).mono (fun _ h => h) kp⟩, t.np, t.nb, t.nd, t.len, fun j u r hu hr => ?_⟩
  obtain ⟨g1, g2, ws, g3, g4⟩ := t.row j u r hu hr
  have n1 : u.1 ≠ pp := fun e => by rw [e, hH] at g1; cases g1
  have n2 : u.2.2 ≠ pp := fun e => nd.2.1 (by rw [← e]; exact List.mem_map.mpr ⟨u, List.mem_of_getElem? hu, rfl⟩)
  exact ⟨by rw [upd_ne n1]; exact g1, g2.mono (fun _ h => h) kp, ws, by rw [upd_ne n2]; exact g3, g4.mono (fun _ h => h) kp⟩
theorem PW2.push {us0 : List Trw} {u : Trw} {rs0 : List (D × List D)} {r : D × List D} {pts : List D} (t : PW2 mg A H a pp (us0 ++ [u]) (rs0 ++ [r], pts)) {ws : List V} {v : V} {d : D} (hH : H u.2.2 = some (.lst ws)) (rs : Reps mg A H ws r.2) (rv : Rep mg A H v d) :
    PW2 mg A (upd H u.2.2 (.lst (ws ++ [v]))) a pp (us0 ++ [u]) (rs0 ++ [(r.1, r.2 ++ [d])], pts) := by
  have hu : u ∈ us0 ++ [u] := by simp
  have kp : Keep A H (upd H u.2.2 (.lst (ws ++ [v]))) := keep_out (t.nb u hu) hH
  have nd := t.nd
  simp only [List.nodup_cons, List.mem_cons, not_or] at nd
  have mb : ∀ x ∈ us0 ++ [u], x.2.2 ∈ (us0 ++ [u]).map (·.2.2) := fun x hx => List.mem_map.mpr ⟨x, hx, rfl⟩
  have n1 : a ≠ u.2.2 := fun e => nd.1.2 (by rw [e]; exact mb u hu)
  have n2 : pp ≠ u.2.2 := fun e => nd.2.1 (by rw [e]; exact mb u hu)
  obtain ⟨ps, h1, h2⟩ := t.hp
  have lenE : us0.length = rs0.length := by have := t.len; simp at this; exact this
  refine ⟨by rw [upd_ne n1]; exact t.ha, t.na, ⟨ps, by rw [upd_ne n2]; exact h1, h2.mono (fun _ h => h) kp⟩, t.np, t.nb, t.nd, by simp [lenE], fun j x q hx hq => ?_⟩
  by_cases hj : j < us0.length
  · have hq' : rs0[j]? = some q := by
      show rs0[j]? = some q
      have : (rs0 ++ [(r.1, r.2 ++ [d])])[j]? = some q := hq
      rwa [List.getElem?_append_left (by omega)] at this
    obtain ⟨g1, g2, zs, g3, g4⟩ := t.row j x q hx (by
      show (rs0 ++ [r])[j]? = some q
      rw [List.getElem?_append_left (by omega)]; exact hq')
    have m1 : x.1 ≠ u.2.2 := fun e => by rw [e, hH] at g1; cases g1
    have m2 : x.2.2 ≠ u.2.2 := fun e => by
      have h1 : ((us0 ++ [u]).map (·.2.2))[j]? = some u.2.2 := by rw [List.getElem?_map, hx]; exact congrArg some e
      have h2 : ((us0 ++ [u]).map (·.2.2))[us0.length]? = some u.2.2 := by rw [List.getElem?_map, List.getElem?_append_right (Nat.le_refl _), Nat.sub_self]; rfl
      have := nodup_get nd.2.2 h1 h2
      omega
    exact ⟨by rw [upd_ne m1]; exact g1, g2.mono (fun _ h => h) kp, zs, by rw [upd_ne m2]; exact g3, g4.mono (fun _ h => h) kp⟩
  · have hj2 : j = us0.length := by
      have := (List.getElem?_eq_some_iff.mp hx).1
      simp at this; omega
    subst hj2
    rw [List.getElem?_append_right (Nat.le_refl _), Nat.sub_self] at hx
    cases hx
    have hq2 : (rs0 ++ [(r.1, r.2 ++ [d])])[us0.length]? = some q := hq
    rw [lenE, List.getElem?_append_right (Nat.le_refl _), Nat.sub_self] at hq2
    cases hq2
    obtain ⟨g1, g2, zs, g3, g4⟩ := t.row us0.length u r (by rw [List.getElem?_append_right (Nat.le_refl _), Nat.sub_self]; rfl) (by
      show (rs0 ++ [r])[us0.length]? = some r
      rw [lenE, List.getElem?_append_right (Nat.le_refl _), Nat.sub_self]; rfl)
    have m1 : u.1 ≠ u.2.2 := fun e => by rw [e, hH] at g1; cases g1
    exact ⟨by rw [upd_ne m1]; exact g1, g2.mono (fun _ h => h) kp, _, upd_same, (rs.append (.cons rv .nil)).mono (fun _ h => h) kp⟩
end
end PV

namespace PV
variable [LT] [RT]
open PySem PySem.Spec PyProof.Rows L2
structure PD (mg : Str → Option Value) (H0 : Hp) (A0 : Addr → Prop) (Ks : List ((Addr → Prop) × Hp)) (a pp : Addr) (ts : List Trw) (A : Addr → Prop) (σ : L2.St) (H : Hp) (env : DEnv) (s : PSt) : Prop where
  vr : VR mg A σ H env
  tb : LamX.Tabs LT.T H
  t : PW2 mg A H a pp ts s
  s3 : σ[3]? = some (some (.ref a))
  e3 : env[3]? = some .no
  s4 : σ[4]? = some (some (.ref pp))
  e4 : env[4]? = some .no
  sub : ∀ x, A x → A0 x ∨ H0 x = none
  sm : Same H0 H
  fa : H0 a = none
  fp : H0 pp = none
  fb : ∀ u ∈ ts, H0 u.2.2 = none
  l12 : env.length = 12
  kw : ∀ p ∈ Ks, (∀ x, p.1 x → A x ∧ ∃ o, H x = some o) ∧ Keep p.1 p.2 H
section
variable {K : PySem.W.Frag} {mg : Str → Option Value} {H0 : Hp} {A0 A : Addr → Prop} {Ks : List ((Addr → Prop) × Hp)} {a pp : Addr} {ts : List Trw} {σ : L2.St} {H H1 : Hp} {env : DEnv} {s : PSt}
theorem sm_dom (sm : Same H H1) {x : Addr} (h : ∃ o, H x = some o) : ∃ o, H1 x = some o := by
  obtain ⟨o, ho⟩ := h
  cases e : H1 x with
  | some o => exact ⟨o, rfl⟩
  | none => rw [sm.dom x e] at ho; cases ho
theorem PD.heap (f : PD mg H0 A0 Ks a pp ts A σ H env s) (sm : Same H H1) : PD mg H0 A0 Ks a pp ts (grown A H) σ H1 env s :=
  ⟨f.vr.heap sm, sm.tabs f.tb, f.t.same sm (fun x h _ => .inl h) (fun x h => h), f.s3, f.e3, f.s4, f.e4, fun x h => h.elim (f.sub x) fun z => .inr (f.sm.dom x z), f.sm.trans sm, f.fa, f.fp, f.fb, f.l12,
    fun p hp => ⟨fun x h => ⟨.inl ((f.kw p hp).1 x h).1, sm_dom sm ((f.kw p hp).1 x h).2⟩, (f.kw p hp).2.trans (Same.keep sm)⟩⟩
theorem PD.lim (f : PD mg H0 A0 Ks a pp ts A σ H env s) : PD mg H0 A0 Ks a pp ts (fun x => A x ∧ ∃ o, H x = some o) σ H env s :=
  ⟨⟨f.vr.len, fun i d e => by
      obtain ⟨v, h1, h2⟩ := f.vr.vals i d e
      exact ⟨v, h1, h2.keepT fun x h o => ⟨h, o⟩⟩, f.vr.pl⟩, f.tb, f.t.same (Same.refl H) (fun x h o => ⟨h, o⟩) (fun x h => .inl h.1), f.s3, f.e3, f.s4, f.e4, fun x h => f.sub x h.1, f.sm, f.fa, f.fp, f.fb, f.l12,
    fun p hp => ⟨fun x h => ⟨⟨((f.kw p hp).1 x h).1, ((f.kw p hp).1 x h).2⟩, ((f.kw p hp).1 x h).2⟩, (f.kw p hp).2⟩⟩
theorem PD.set (f : PD mg H0 A0 Ks a pp ts A σ H env s) {i : Nat} {v : V} {d : D} (rv : Rep mg A H v d) (h3 : i ≠ 3) (h4 : i ≠ 4) : PD mg H0 A0 Ks a pp ts A (σ.set i (some v)) H (env.set i (.val d)) s :=
  ⟨f.vr.set rv, f.tb, f.t, by rw [List.getElem?_set_ne h3]; exact f.s3, by rw [List.getElem?_set_ne h3]; exact f.e3, by rw [List.getElem?_set_ne h4]; exact f.s4, by rw [List.getElem?_set_ne h4]; exact f.e4, f.sub, f.sm, f.fa, f.fp, f.fb, by rw [List.length_set]; exact f.l12, f.kw⟩
theorem PD.write (f : PD mg H0 A0 Ks a pp ts A σ H env s) {b : Addr} {xs ys : List V} {ts' : List Trw} {s' : PSt} (hb : ¬ A b) (hH : H b = some (.lst xs)) (h0 : H0 b = none) (t' : PW2 mg A (upd H b (.lst ys)) a pp ts' s') (fb' : ∀ u ∈ ts', H0 u.2.2 = none) : PD mg H0 A0 Ks a pp ts' A σ (upd H b (.lst ys)) env s' := by
  have kp : Keep A H (upd H b (.lst ys)) := keep_out hb hH
  refine ⟨⟨f.vr.len, fun i d e => ?_, f.vr.pl⟩, fun p hp => tabS_upd hH trivial (f.tb p hp), t', f.s3, f.e3, f.s4, f.e4, f.sub, f.sm.put h0 hH trivial, f.fa, f.fp, fb', f.l12, fun p hp => ⟨fun x h => ⟨((f.kw p hp).1 x h).1, ?_⟩, (f.kw p hp).2.trans (kp.sub fun x h => ((f.kw p hp).1 x h).1)⟩⟩
  · obtain ⟨v, h1, h2⟩ := f.vr.vals i d e
    exact ⟨v, h1, h2.mono (fun _ h => h) kp⟩
  · by_cases e : x = b
    · subst e; exact ⟨_, upd_same⟩
    · rw [upd_ne e]; exact ((f.kw p hp).1 x h).2
end
end PV

namespace PV
variable [LT] [RT]
open PySem PySem.Spec PyProof.Rows L2
section
variable {K : PySem.W.Frag} {mg : Str → Option Value} {H0 : Hp} {A0 A : Addr → Prop} {Ks : List ((Addr → Prop) × Hp)} {a pp : Addr} {ts : List Trw} {σ : L2.St} {H H1 : Hp} {env : DEnv} {s : PSt}
theorem PD.more {P : Addr → Prop} (f : PD mg H0 A0 Ks a pp ts A σ H env s) (h : ∀ x, P x → A x ∧ ∃ o, H x = some o) : PD mg H0 A0 ((P, H) :: Ks) a pp ts A σ H env s := ⟨f.vr, f.tb, f.t, f.s3, f.e3, f.s4, f.e4, f.sub, f.sm, f.fa, f.fp, f.fb, f.l12, fun p hp => by
  rcases List.mem_cons.mp hp with rfl | hp
  · exact ⟨h, keepRefl⟩
  · exact f.kw p hp⟩
end
end PV

namespace PV
variable [LT] [RT]
open PySem PySem.Spec PyProof.Rows L2
end PV

namespace PV
variable [LT] [RT]
open PySem PySem.Spec PyProof.Rows L2
def LamO (f : Addr) (q : Str) (pa : Arguments) (body : Expr) (sc : Scope) (c' : Addr) : HO := .ext fun h => ∃ pm ctv, h.get? f = some (PySem.W.kla_obj "<lambda>" q pa body sc [] pm c' ctv)
theorem lamO_ne {f c' : Addr} {q : Str} {pa : Arguments} {body : Expr} {sc : Scope} (ps : Array Value) : LamO f q pa body sc c' ≠ .tbl ps := fun z => by
  unfold LamO at z
  cases z
theorem lamO_ok {P : Program} {w : World} {H : Hp} {h : Heap} {f c' : Addr} {q : Str} {pa : Arguments} {body : Expr} {sc : Scope} {pm ctv : Value} (e : h.get? f = some (PySem.W.kla_obj "<lambda>" q pa body sc [] pm c' ctv)) : ObjOk P w H h f (LamO f q pa body sc c') :=
  ⟨⟨pm, ctv, e⟩, ⟨_, e⟩, fun h1 h2 ⟨pm, ctv, e1⟩ k => ⟨pm, ctv, k _ e1⟩⟩
structure LamV (H : Hp) (f c' : Addr) (q : Str) (pa : Arguments) (body : Expr) (sc : Scope) : Prop where
  o : H f = some (LamO f q pa body sc c')
  c : H c' = some (LamX.CodeO c' q)
theorem LamV.same {H H' : Hp} {f c' : Addr} {q : Str} {pa : Arguments} {body : Expr} {sc : Scope} (l : LamV H f c' q pa body sc) (s : Same H H') : LamV H' f c' q pa body sc := by
  haveI : NT (LamO f q pa body sc c') := ⟨lamO_ne⟩
  haveI : NT (LamX.CodeO c' q) := ⟨LamX.codeO_ne⟩
  exact ⟨s _ _ l.o, s _ _ l.c⟩
section
variable {P : Program} {w : World} {K : PySem.W.Frag} {mg : Str → Option Value} {base : Heap}
theorem lamC_run {A : Around} {outer : List Env} {s : Shared} {H : Hp} {f c' : Addr} {q : Str} {pa : Arguments} {body : Expr} {sc : Scope} {N ps : List Str} {k : Nat} {us : List Value} {vs : List V} {tb : TE} {Q : VK} (S : FnScope N ps sc) (e0 : Env0 P w K mg base A outer s H) (hr : Room (k + 1) A) (l : LamV H f c' q pa body sc)
    (hbind : ∀ (pm ctv : Value), bindArgs (PySem.W.kla_fn "<lambda>" q pa body sc [] pm (.ref c') ctv) ⟨us, []⟩ = pure (ps.zip us)) (r : Vals vs us) (hl : vs.length = ps.length)
    (hbody : ∀ (A : Around) (outer : List Env) (s : Shared) (H : Hp), Room k (A.deeper (envOfC q sc s.heap.objs.size f (.ref c'))) → PE (cxOf CX0 P w K mg base N q sc f (.ref c') A outer s H E0) body tb)
    (ht : tb (L2.start N vs) H Q) : codeAny (model P w) A (.call (.ref f) ⟨us, []⟩) (CR CX0 outer P w H s Q E0) s := by
  obtain ⟨⟨pm, ctv, of1⟩, _, _⟩ := e0.hok f _ l.o
  obtain ⟨⟨oc, ws, t, hoc, hdc, hvc⟩, _, _⟩ := e0.hok c' _ l.c
  have lim : s.heap.NoLimit := e0.mod.nolimit.keeps fun b o e => (e0.bs b o e).1
  have hkind : ∀ y ∈ ps.zip us, sc.names.lookup y.1 = some .local ∨ (sc.names.lookup y.1 = some .cell ∧ ((cellsFrom (s.heap.objs.size + 1) sc.names []).lookup y.1).isSome = true) := fun ⟨n, v⟩ hy => by
    rcases S.par n (List.of_mem_zip hy).1 with q | q
    · exact .inl q
    · exact .inr ⟨q, PySem.W.cellsFrom_some _ _ _ (.inl q)⟩
  refine PySem.W.kla_callFunE hr.depth of1 rfl S.co S.gen rfl ⟨c', oc, ws, t, rfl, hoc, hdc, hvc⟩ ?_
  rw [hbind]
  refine wpAny_pure (wpAny_newFunctionEnv_cells S.kind hkind fun env he s1 x => ?_)
  subst he
  refine ⟨lim.keeps x.toInCall.keep, ?_⟩
  have I : Inv (cxOf CX0 P w K mg base N q sc f (.ref c') A outer s H E0) [] (L2.start N vs) H s1 := inv_start S hr.hd e0 hl r x
  refine PySem.W.kla_codeExpr (wpAny_mono ((hbody A outer s H (hr.deeper _)).run [] s1 (L2.start N vs) H Q I ht) (fun v s' hq => ?_) fun e s' hs => hs)
  obtain ⟨w', H', J, rv, q⟩ := hq
  exact ⟨w', H', J.os, J.bare, J.base, J.hok, rv, q⟩
end
def tWay (i : Nat) (q : Str) (pa : Arguments) (body : Expr) (sc : Scope) (N : List Str) (m : Nat) (tb : TE) (t : TA) : TE := fun σ H Q => ∃ f c' : Addr, σ[i]? = some (some (.ref f)) ∧ t σ H fun vs H1 => vs.length = m ∧ LamV H1 f c' q pa body sc ∧ tb (L2.start N vs) H1 Q
theorem pe_way {X : Cx} {i k : Nat} {x q : Str} {pa : Arguments} {body : Expr} {sc : Scope} {N ps : List Str} {tb : TE} {t : TA} {e : Expr} {es : List Expr} {p1 p2 : Pos} (S : FnScope N ps sc) (hr : Room (k + 1) X.A) (ha : PA X (e :: es) t)
    (hbind : ∀ (c' : Addr) (pm ctv : Value) (us : List Value), us.length = ps.length → bindArgs (PySem.W.kla_fn "<lambda>" q pa body sc [] pm (.ref c') ctv) ⟨us, []⟩ = pure (ps.zip us))
    (hbody : ∀ (f c' : Addr) (A : Around) (outer : List Env) (s : Shared) (H : Hp), Room k (A.deeper (envOfC q sc s.heap.objs.size f (.ref c'))) → PE (cxOf CX0 X.prog X.w X.K X.mg X.base N q sc f (.ref c') A outer s H E0) body tb)
    (hN : X.N[i]? = some x := by rfl) (hv : Vis X.env.scope x := by first | exact Or.inl rfl | exact Or.inr (Or.inl rfl) | exact Or.inr (Or.inr rfl)) (hd : (x == ("__debug__" : Str)) = false := by decide) (hcd : (x == ("__classdict__" : Str)) = false := by decide)
    (he : starEach (e :: es) X.env = (false, eval e X.env) :: starEach es X.env := by rfl) (hpl : (backTo p2 (starEach es X.env)).any (·.1) = false := by rfl) :
    PE X (.Call (.Name x p1) (e :: es) [] p2) (tWay i q pa body sc N ps.length tb t) := by
  refine ⟨fun pins s σ H Q I h => ?_⟩
  obtain ⟨f, c', hs, h⟩ := h
  refine wpAny_Call_Name_kw (thn ((pe_var (pos := p1) (i := i) hN hv hd hcd).run pins s σ H (fun v H1 => v = .ref f ∧ H1 = H) I ⟨.ref f, hs, rfl, rfl⟩) fun u s1 ⟨v, H1, I1, r1, q1⟩ => ?_)
  obtain ⟨ev, eH⟩ := q1
  subst ev
  rw [eH] at I1
  obtain rfl : u = Value.ref f := r1
  rw [he]
  refine PySem.W.callWith_of (by show ((false || (backTo p2 (starEach es X.env)).any (·.1)) || false) = false; rw [hpl]; rfl) PySem.W.keeps_F (PySem.Calls.evalArgs_plain ?_)
  have hA := ha.run p2 pins s1 σ H _ I1 h
  rw [he] at hA
  refine thn hA fun us s2 ⟨vs, H2, I2, r2, hl, l, ht⟩ => ?_
  have hf : PySem.W.FnAt f s2.heap := by
    obtain ⟨⟨pm, ctv, of1⟩, _, _⟩ := I2.hok f _ l.o
    exact ⟨_, _, _, _, of1⟩
  refine ⟨hf, ?_⟩
  have hlu : us.length = ps.length := by rw [← r2.length]; exact hl
  refine wpAny_call (codeAny_mono (lamC_run S I2.env0 hr l (fun pm ctv => hbind c' pm ctv us hlu) r2 hl (fun A outer s H hr => hbody f c' A outer s H hr) ht) fun r s' hq => ?_)
  cases r with
  | error e => exact (pass0 (X := X) pins σ H2 s2 e s' I2 hq)
  | ok fl =>
    cases fl with
    | ret u => exact I2.after hq
    | next => exact False.elim hq
    | brk => exact False.elim hq
    | cont => exact False.elim hq
end PV

namespace PV
variable [LT] [RT]
open PySem PySem.Spec PyProof.Rows L2
section
variable {X : Cx} {pins : List (Addr × Obj)} {σ σ' : L2.St} {H : Hp} {s : Shared}
theorem lamV_mk {params : Arguments} {body : Expr} {scope : Scope} {pos : Pos} {E Q : Value → Shared → Prop} (I : Inv X pins σ H s) (hL : LamAt X) (hT : LamX.Tabs LT.T H) (hdef : defaultsOf params X.env = ([], [])) (hfree : ∀ y ∈ scope.names, y.2 ≠ .free)
    (h : ∀ (f c' : Addr) (H1 : Hp) (s' : Shared), Inv X pins σ H1 s' → Same H H1 → LamV H1 f c' (X.env.qual ++ "<lambda>") params body scope → Q (.ref f) s') :
    wpAny (model X.prog X.w) X.A (eval (.Lambda params body scope pos) X.env) Q E s := by
  obtain ⟨c, P, TB, hcode, hm, hu⟩ := hL
  obtain ⟨ps, hP, ht, ha⟩ := hT _ hm
  have hP' : s.heap.get? P = some { cls := .none, data := .fields ps } := I.hok P _ hP
  have hfr : ∀ y ∈ scope.names, y.2 = .free → ∃ c, X.env.cells.lookup y.1 = some c := fun y hy e => absurd e (hfree y hy)
  have hcl : cloFrom X.env.cells scope.names [] = [] := by
    rcases e : cloFrom X.env.cells scope.names [] with _ | ⟨y, l⟩
    · rfl
    · rcases cloFrom_mem (show y ∈ cloFrom X.env.cells scope.names [] by rw [e]; exact List.mem_cons_self) with hm | ⟨h1, h2⟩
      · cases hm
      · exact absurd rfl (hfree _ h1)
  refine PySem.W.kla_eval hdef ?_
  rcases hc : codeAmong pos ps.toList with _ | cv
  · refine PySem.W.kla_makeFunction (mg := X.mg) (c := c) (P := P) (ps := ps) (closure_ok hfr) I.ok.glob (I.mod.glob.keeps I.bk) hcode (TB.code.keeps I.bk) hP' ht hc TB.gP (TB.bm.keeps I.bk) fun c' ctv h' tk hx hge hlt hrec htb => ?_
    obtain ⟨_, oc, vs, t, e2, hoc, hd, hv⟩ := hrec
    cases e2
    have nC : H c' = none := I.hok.fresh hge
    have I1 := LamX.inv_table (q := X.env.qual ++ "<lambda>") (t' := tk) (more := #[rawInt pos.line, rawInt pos.col, .ref c']) (h' := h') I hP
      (fun b o hb e => hx b o hb e) htb hge ⟨oc, vs, t, hoc, hd, hv⟩
    have nPc : P ≠ c' := ne_of_none hP nC
    have st : ∀ (b : Addr) (o : HO), H b = some o → (∀ ps, o ≠ .tbl ps) → upd (upd H P (.tbl (ps ++ #[rawInt pos.line, rawInt pos.col, .ref c']))) c' (LamX.CodeO c' (X.env.qual ++ "<lambda>")) b = some o := fun b o e n => by
      have nb : b ≠ P := fun z => by rw [z, hP] at e; exact n ps (Option.some.inj e).symm
      rw [upd_ne (ne_of_none e nC), upd_ne nb]; exact e
    have eL : (ps ++ #[rawInt pos.line, rawInt pos.col, .ref c']).toList = ps.toList ++ [rawInt pos.line, rawInt pos.col, .ref c'] := by simp
    have sm : Same H (upd (upd H P (.tbl (ps ++ #[rawInt pos.line, rawInt pos.col, .ref c']))) c' (LamX.CodeO c' (X.env.qual ++ "<lambda>"))) := by
      refine ⟨fun b o e _ => st b o e NT.nt, fun t p hp => ?tabs, fun b hb => dom_upd (dom_upd hb)⟩
      by_cases hb : p.1 = P
      · rw [hu p hp hb, hb]
        refine ⟨_, by rw [upd_ne nPc, upd_same], by rw [eL]; exact PySem.TriplesOk_snoc _ _ _ _ ht, fun p' cv hcv => ?_⟩
        rw [eL] at hcv
        rcases LamX.among_app _ ht hcv with z | z
        · obtain ⟨c0, e1, e2⟩ := ha p' cv z
          exact ⟨c0, e1, st _ _ e2 LamX.codeO_ne⟩
        · exact ⟨c', z, upd_same⟩
      · obtain ⟨ps', a1, a2, a3⟩ := t p hp
        refine ⟨ps', by rw [upd_ne (ne_of_none a1 nC), upd_ne hb]; exact a1, a2, fun p' cv hcv => ?_⟩
        obtain ⟨c0, e1, e2⟩ := a3 p' cv hcv
        exact ⟨c0, e1, st _ _ e2 LamX.codeO_ne⟩
    have hF : upd (upd H P (.tbl (ps ++ #[rawInt pos.line, rawInt pos.col, .ref c']))) c' (LamX.CodeO c' (X.env.qual ++ "<lambda>")) h'.objs.size = none := I1.hok.fresh (Nat.le_refl _)
    have I2 := I1.laid (t' := tk) (a := h'.objs.size) (o := LamO h'.objs.size (X.env.qual ++ "<lambda>") params body scope c') (h' := h'.push (PySem.W.kla_obj "<lambda>" (X.env.qual ++ "<lambda>") params body scope (cloFrom X.env.cells scope.names []) ((X.mg "__name__").getD .none) c' ctv))
      (fun b u e => Heap.get?_push_of_some _ e) (Nat.le_refl _) (lamO_ok (by rw [hcl]; exact Heap.get?_push_size _ rfl))
    have s2 := same_upd (o := LamO h'.objs.size (X.env.qual ++ "<lambda>") params body scope c') hF
    haveI : NT (LamX.CodeO c' (X.env.qual ++ "<lambda>")) := ⟨LamX.codeO_ne⟩
    exact h h'.objs.size c' _ _ I2 (sm.trans s2) ⟨upd_same, s2 _ _ upd_same⟩
  · obtain ⟨c', e, hco⟩ := ha pos cv hc
    subst e
    refine PySem.W.kla_makeFunctionHit (mg := X.mg) (c := c) (P := P) (ps := ps) (closure_ok hfr) I.ok.glob (I.mod.glob.keeps I.bk) hcode (TB.code.keeps I.bk) hP' ht hc (TB.bm.keeps I.bk) fun ctv h' tk hx hsz => ?_
    have I2 := I.laid (t' := tk) (a := h'.objs.size) (o := LamO h'.objs.size (X.env.qual ++ "<lambda>") params body scope c') (h' := h'.push (PySem.W.kla_obj "<lambda>" (X.env.qual ++ "<lambda>") params body scope (cloFrom X.env.cells scope.names []) ((X.mg "__name__").getD .none) c' ctv))
      (fun b u e => Heap.get?_push_of_some _ (hx b u e)) hsz (lamO_ok (by rw [hcl]; exact Heap.get?_push_size _ rfl))
    have s2 := same_upd (o := LamO h'.objs.size (X.env.qual ++ "<lambda>") params body scope c') (I.hok.fresh hsz)
    haveI : NT (LamX.CodeO c' (X.env.qual ++ "<lambda>")) := ⟨LamX.codeO_ne⟩
    exact h h'.objs.size c' _ _ I2 s2 ⟨upd_same, s2 _ _ hco⟩
end
def tLamV (q : Str) (pa : Arguments) (body : Expr) (sc : Scope) : TE := fun σ H Q => LamX.Tabs LT.T H ∧ ∀ f c' H1, Same H H1 → LamV H1 f c' q pa body sc → Q (.ref f) H1
theorem pe_lamV {X : Cx} {pa : Arguments} {body : Expr} {sc : Scope} {pos : Pos} (hL : LamAt X) (hfree : ∀ y ∈ sc.names, y.2 ≠ .free := by decide +kernel) (hdef : defaultsOf pa X.env = ([], []) := by rfl) : PE X (.Lambda pa body sc pos) (tLamV (X.env.qual ++ "<lambda>") pa body sc) :=
  ⟨fun pins s σ H Q I ⟨hT, h⟩ => lamV_mk I hL hT hdef hfree fun f c' H1 s' I1 sm l => ⟨.ref f, H1, I1, rfl, h f c' H1 sm l⟩⟩
end PV

namespace PV
variable [LT] [RT]
open PySem PySem.Spec PyProof.Rows L2
theorem lc_ofW {K : PySem.W.Frag} {mg : Str → Option Value} {Φ : L2.St → Hp → Prop} {tel : TE} {di : Ax} {g : Tg} {te : Ex} {ws : List Nat} {σ : L2.St} {H : Hp} {Q : VK} (hw : ∀ i ∈ g.slots, i ∈ ws)
    (hs : ∀ σ H H', Same H H' → Φ σ H → Φ σ H') (hp : ∀ σ σ' H, wipe σ' ws = wipe σ ws → Φ σ H → Φ σ' H)
    (hel : ∀ B O σ env d H Q, ERel K mg B O σ H env → Φ σ H → te env = some d → (∀ v H', Same H H' → Rep mg (Lv B O false) H' v d → Q v H') → tel σ H Q)
    {B : Bs} {O : Nat → Option Addr} {env : DEnv} {d : D} (rl : ERel K mg B O σ H env) (hΦ : Φ σ H) (e : lcE di g yes te ws env = some d)
    (q : ∀ p H', Same H H' → H p = none → Own mg (fun a => Lv B O false a ∧ a ≠ p) H' p d → Q (.ref p) H') : tLc (tI K mg di) (tgR K g) tYes tel ws σ H Q := by
  obtain ⟨xs, hx, e⟩ := bnd e
  split at e
  · rename_i hz
    obtain ⟨hz, hno⟩ := hz
    obtain ⟨ys, hr, e⟩ := bnd e
    cases e
    refine ⟨B, O, env, xs, rl, hx, fun J H1 s1 wk => fun D hD => ?_⟩
    have rl1 := rl.heap s1
    have hws : ∀ i ∈ ws, i < σ.length := fun i hi => by
      have z := List.all_eq_true.mp hno i hi
      rw [← rl.len]
      cases e : (env[i]? : Option DSlot) with
      | none => rw [e] at z; cases z
      | some x => exact (List.getElem?_eq_some_iff.mp e).1
    have noO : ∀ i ∈ ws, O i = none := fun i hi => rl.noO hno hi (by rw [rl.len]; exact hws i hi)
    obtain ⟨n, hnl, rm, sub⟩ := (rl1.wip ws hno).more (o := .lst []) hD trivial
    have hOn : putO O n D n = some D := by unfold putO; rw [if_pos rfl]
    have hlen : (PV.wip env ws).length = σ.length := by rw [wip_len]; exact rl.len
    have noP : ∀ i ∈ g.slots, putO O n D i = none := fun i hi => by
      have := hws i (hw i hi)
      unfold putO
      rw [if_neg (by omega)]
      exact noO i (hw i hi)
    refine ⟨fun i m H' => m = xs.length - i ∧ i ≤ xs.length ∧ ∃ vs ys1 ys2, H' D = some (.lst vs) ∧ ERel K mg B (putO O n D) (wipe σ ws) H' (PV.wip env ws) ∧ Reps mg (Lv B (putO O n D) false) H' vs ys1 ∧ ys1.length ≤ i ∧ lcRun (gD g) yes te (PV.wip env ws) (xs.drop i) = some ys2 ∧ ys = ys1 ++ ys2 ∧ Same H1 H',
      ⟨xs.length, by simp, Nat.zero_le _, [], [], ys, upd_same, rm, .nil, Nat.le_refl _, by simpa using hr, rfl, same_upd hD⟩, ?_⟩
    rintro i m H' ⟨rfl, hi', vs, ys1, ys2, hHD, rl', rs, hly, hrun, hys, sm⟩
    by_cases hlt : i < xs.length
    · have hxi : xs[i]? = some xs[i] := List.getElem?_eq_getElem hlt
      obtain ⟨go, yl⟩ := (wk i H' (Same.keep sm)).1 _ hxi
      rw [List.drop_eq_getElem_cons hlt] at hrun
      unfold lcRun at hrun
      obtain ⟨e1, he1, hrun⟩ := bnd hrun
      obtain ⟨c, hc, hrun⟩ := bnd hrun
      refine .inr ⟨go, fun H'' => ∃ vs ys1 ys2, H'' D = some (.lst vs) ∧ ERel K mg B (putO O n D) (wipe σ ws) H'' (PV.wip env ws) ∧ Reps mg (Lv B (putO O n D) false) H'' vs ys1 ∧ ys1.length ≤ i + 1 ∧ lcRun (gD g) yes te (PV.wip env ws) (xs.drop (i + 1)) = some ys2 ∧ ys = ys1 ++ ys2 ∧ Same H1 H'',
        fun H'' z => ⟨xs.length - (i + 1), by omega, rfl, hlt, z⟩, fun v H3 y => ?_⟩
      obtain ⟨s3, rv⟩ := yl v H3 y
      have rl3 := rl'.heap s3
      have rv' : Rep mg (Lv B (putO O n D) false) H3 v xs[i] := rv.mono (fun a ha => ⟨ha.1.1, .inr fun j z => by
        unfold putO at z
        split at z
        · cases z
          obtain ⟨o, ho⟩ := ha.2
          rw [hD] at ho; cases ho
        · exact ha.1.2.elim (fun z => Bool.noConfusion z) fun w => w j z⟩) keepRefl
      refine tgR_oks g rl3 noP rv' he1 fun σ4 r4 w4 => ⟨by rw [w4 ws hw]; exact wipe_idem, ?_⟩
      have hΦ4 : Φ σ4 H3 := hp σ σ4 H3 (by rw [w4 ws hw]; exact wipe_idem) (hs σ H H3 (s1.trans (sm.trans s3)) hΦ)
      cases hc
      unfold tYes
      dsimp only
      rw [if_pos rfl]
      obtain ⟨yv, hyv, hrun⟩ := bnd hrun
      obtain ⟨ys', hys', hrun⟩ := bnd hrun
      cases hrun
      refine hel B _ σ4 e1 yv H3 _ r4 hΦ4 hyv fun w H6 s6 rw6 => ?_
      have s36 := s3.trans s6
      have hD6 : H6 D = some (.lst vs) := s36 _ _ hHD
      have rl6 := rl'.heap s36
      refine ⟨vs, hD6, ?_, vs ++ [w], ys1 ++ [yv], ys', upd_same, rl6.poke hOn (by omega) trivial, ?_, by simp; omega, hys', by rw [hys]; simp, ?_⟩
      · have : vs.length ≤ i := by rw [rs.len]; exact hly
        have hz' := szL_ok hz
        omega
      · have k := keep_write (o' := .lst (vs ++ [w])) rl6 hOn
        exact ((rs.same s36).mono (fun _ z => z) k).append (.cons (rw6.mono (fun _ z => z) k) .nil)
      · exact (sm.trans s36).put hD hD6 trivial
    · have hn : xs[i]? = none := List.getElem?_eq_none (by omega)
      have hdr : xs.drop i = [] := List.drop_eq_nil_of_le (by omega)
      rw [hdr] at hrun
      unfold lcRun at hrun
      cases hrun
      rw [List.append_nil] at hys
      subst hys
      refine .inl ⟨(wk i H' (Same.keep sm)).2 hn, ?_⟩
      refine q D H' (s1.trans sm) (Same.free s1 hD) (.lst hHD (rs.mono (fun a ha => ⟨sub false a ha, fun z => ?_⟩) keepRefl))
      subst z
      exact ha.2.elim (fun z => Bool.noConfusion z) fun w => w n hOn
  · cases e
def wayE (db : Ex) (a1 a2 : Ex) : Ex := fun e => (a1 e).bind fun x => (a2 e).bind fun y => db [.val x, .val y]
theorem way_of {K : PySem.W.Frag} {mg : Str → Option Value} {i : Nat} {q : Str} {pa : Arguments} {body : Expr} {sc : Scope} {N : List Str} {db a1 a2 : Ex} (hN : N.length = 2) {B : Bs} {O : Nat → Option Addr} {σ : L2.St} {H : Hp} {env : DEnv} {d : D} {Q : VK} (rl : ERel K mg B O σ H env)
    (hΦ : ∃ f c', σ[i]? = some (some (.ref f)) ∧ LamV H f c' q pa body sc) (e : wayE db a1 a2 env = some d) (qq : ∀ v H', Same H H' → Rep mg (Lv B O false) H' v d → Q v H') : tWay i q pa body sc N 2 (tE K mg true db) (tA K mg false (aC a1 (aC a2 aN))) σ H Q := by
  obtain ⟨f, c', hf, l⟩ := hΦ
  obtain ⟨x, hx, e⟩ := bnd e
  obtain ⟨y, hy, e⟩ := bnd e
  refine ⟨f, c', hf, B, O, env, [x, y], rl, by simp [aC, aN, hx, hy], fun vs H1 s1 rs => ⟨rs.len, l.same s1, ?_⟩⟩
  have fr := (rl.heap s1).fr (τ := false)
  have r0 := erel_start (K := K) (N := N) 0 fr rs (by rw [hN]; exact Nat.le_refl 2)
  have en : ([x, y] : List D).map DSlot.val ++ List.replicate (N.length - ([x, y] : List D).length) DSlot.no = [.val x, .val y] := by rw [hN]; rfl
  rw [en] at r0
  exact ⟨_, _, _, d, r0, e, fun v H' s' rv => qq v H' (s1.trans s') (rv.mono (fun a h => h.1.elim id fun z => fr a z) keepRefl)⟩
def joiF (n : Nat) (b : Sx) : Fn := fun ds => match ds with
  | [x, y] => (b (.val x :: .val y :: List.replicate (n - 2) .no)).bind fun r => match r with
    | .ret d => some d
    | _ => none
  | _ => none
def spJ (mg : Str → Option Value) (q : Str) (pa : Arguments) (body : Expr) (sl : Scope) (G : Fn) : Sp := fun vs H Q _ => ∃ A v1 v2 d1 d2 f c' d, vs = [v1, v2, .ref f] ∧ Fr A H ∧ Rep mg A H v1 d1 ∧ Rep mg A H v2 d2 ∧ LamV H f c' q pa body sl ∧ G [d1, d2] = some d ∧ ∀ v H', Same H H' → Rep mg A H' v d → Q v H'
section
variable {P : Program} {w : World} {K : PySem.W.Frag} {mg : Str → Option Value} {base : Heap}
theorem joi_sound {x qual q : Str} {args pa : Arguments} {st1 st2 : Stmt} {sc sl : Scope} {body : Expr} {f : Addr} {fd : FuncData} {N ps Nl : List Str} {k i : Nat} {di : Ax} {g : Tg} {db a1 a2 : Ex} {ws : List Nat} {ds : Sx} (F : FunD K x qual args [st1, st2] sc [] [] f fd) (S : FnScope N ps sc) (h3 : ps.length = 3) (hNl : Nl.length = 2) (hw : ∀ j ∈ g.slots, j ∈ ws) (h2w : 2 ∉ ws)
    (hb1 : ∀ (cdv : Value) (A : Around) (outer : List Env) (s : Shared) (H : Hp), Room k (A.deeper (envOfC qual sc s.heap.objs.size f cdv)) → PS (cxOf CX0 P w K mg base N qual sc f cdv A outer s H E0).nox st1 (tAsg (tLc (tI K mg di) (tgR K g) tYes (tWay 2 q pa body sl Nl 2 (tE K mg true db) (tA K mg false (aC a1 (aC a2 aN)))) ws) (gName i)))
    (hb2 : ∀ (cdv : Value) (A : Around) (outer : List Env) (s : Shared) (H : Hp), Room k (A.deeper (envOfC qual sc s.heap.objs.size f cdv)) → SS (cxOf CX0 P w K mg base N qual sc f cdv A outer s H E0).nox st2 ds) (hso : RT.so = false := by rfl) :
    FnOk P w K mg base CX0 (k + 1) f fd ps (spJ mg q pa body sl (joiF N.length (sq (setE i (lcE di g yes (wayE db a1 a2) ws)) ds))) := by
  have hpl : 3 ≤ N.length := by have := congrArg List.length S.pre; rw [List.length_take] at this; omega
  refine F.ok S (fun vs H Q E h => ?_) fun cdv A outer s H vs Q E hr h => ?_
  · obtain ⟨A, v1, v2, d1, d2, f, c', d, rfl, _⟩ := h
    rw [h3]; rfl
  · refine ⟨_, PSs.nox (pss_cons (hb1 cdv A outer s H hr) (pss_one (hb2 cdv A outer s H hr))), ?_⟩
    obtain ⟨A1, v1, v2, d1, d2, fl, c', d, rfl, fr, r1, r2, l, e, qk⟩ := h
    have r0 := erel_start (K := K) (N := N) (ds := [d1, d2]) 0 fr (.cons r1 (.cons r2 .nil)) (by show 2 ≤ _; omega)
    have en : ([d1, d2] : List D).map DSlot.val ++ List.replicate (N.length - ([d1, d2] : List D).length) DSlot.no = .val d1 :: .val d2 :: List.replicate (N.length - 2) .no := rfl
    rw [en] at r0
    have g2 : (DSlot.val d1 :: DSlot.val d2 :: List.replicate (N.length - 2) DSlot.no)[2]? = some .no := by
      show (List.replicate (N.length - 2) DSlot.no)[0]? = some .no
      rw [List.getElem?_replicate, if_pos (by omega)]
    have rl := r0.paint g2 (some (.ref fl))
    have es : (L2.start N [v1, v2]).set 2 (some (.ref fl)) = L2.start N [v1, v2, .ref fl] := by
      unfold L2.start
      obtain ⟨m, hm⟩ : ∃ m, N.length = m + 3 := ⟨N.length - 3, by omega⟩
      rw [hm]
      show (some v1 :: some v2 :: List.replicate (m + 1) none).set 2 (some (.ref fl)) = some v1 :: some v2 :: some (.ref fl) :: List.replicate m none
      rfl
    rw [es] at rl
    have hσ2 : (L2.start N [v1, v2, .ref fl])[2]? = some (some (.ref fl)) := rfl
    unfold joiF at e
    obtain ⟨res, e1, e2⟩ := bnd e
    obtain ⟨rr, e3, e4⟩ := bnd e1
    obtain ⟨dl, e5, e6⟩ := bnd e3
    cases e6
    have e4 : ds ((DSlot.val d1 :: DSlot.val d2 :: List.replicate (N.length - 2) DSlot.no).set i (.val dl)) = some res := e4
    unfold tSeq tAsg
    refine lc_ofW (Φ := fun σ H => ∃ f c', σ[2]? = some (some (.ref f)) ∧ LamV H f c' q pa body sl) hw (fun σ H H' s ⟨f, c', a, b⟩ => ⟨f, c', a, b.same s⟩) (fun σ σ' H hw' ⟨f, c', a, b⟩ => ⟨f, c', ?_, b⟩)
      (fun B O σ env d H Q rl hΦ e q => way_of hNl rl hΦ e q) rl ⟨fl, c', hσ2, l⟩ e5 fun p H1 s1 hp o => ?_
    · rw [← wipe_get (σ := σ') h2w, hw', wipe_get (σ := σ) h2w]; exact a
    · have rl1 := rl.heap s1
      have rS := ERel.set (i := i) rl1 (o.rep (fun _ z => z.1) (rl.fr p hp))
      show tS K mg ds _ _ H1
      refine ⟨_, _, _, res, rS, e4, ?_⟩
      cases res with
      | ret d' =>
        cases e2
        exact fun v H' s' rv => qk v H' s' ((retP_rep hso rv).mono (fun a h => h.1.elim id fun z => fr a z) keepRefl)
      | nx e' => cases e2
      | bk e' => cases e2
      | ct e' => cases e2
structure CallJ (P : Program) (w : World) (K : PySem.W.Frag) (mg : Str → Option Value) (base : Heap) (k : Nat) (x q : Str) (pa : Arguments) (body : Expr) (sl : Scope) (G : Fn) : Prop where
  ex : ∃ f fd ps, FnOk P w K mg base CX0 k f fd ps (spJ mg q pa body sl G) ∧ mg x = some (.ref f) ∧ PySem.W.keepIn K (.ref f) = true ∧ Binds K fd ps []
end
section
variable {X : Cx} {τ : Bool}
theorem se_calW {k : Nat} {x q : Str} {pa : Arguments} {body : Expr} {sl : Scope} {G : Fn} {e1 e2 : Expr} {a1 a2 : Ex} {p lp pos : Pos} (c : CallJ X.prog X.w X.K X.mg X.base k x q pa body sl G) (hr : Room k X.A) (h1 : SE X false e1 a1) (h2 : SE X false e2 a2) (hL : LamAt X) (hq : X.env.qual ++ "<lambda>" = q) (hg : Gl X x := by rfl)
    (hfree : ∀ y ∈ sl.names, y.2 ≠ .free := by decide +kernel) (hdef : defaultsOf pa X.env = ([], []) := by rfl) (hdb : (x == ("__debug__" : Str)) = false := by decide) (n1 : starEach [e1, e2, .Lambda pa body sl lp] X.env = (false, eval e1 X.env) :: starEach [e2, .Lambda pa body sl lp] X.env := by rfl) (n2 : starEach [e2, .Lambda pa body sl lp] X.env = (false, eval e2 X.env) :: starEach [.Lambda pa body sl lp] X.env := by rfl)
    (n3 : starEach [.Lambda pa body sl lp] X.env = (false, eval (.Lambda pa body sl lp) X.env) :: starEach [] X.env := by rfl) (hpl : (backTo pos (starEach [e2, .Lambda pa body sl lp] X.env)).any (·.1) = false := by rfl) :
    SE X τ (.Call (.Name x p) [e1, e2, .Lambda pa body sl lp] [] pos) (cal G (aC a1 (aC a2 aN))) := by
  obtain ⟨f, fd, ps, FO, hm, hk, hb⟩ := c.ex
  subst hq
  refine (pe_call FO hr hg hm hk hb .nil pass0 (pa_cons h1 (pa_cons h2 (pa_cons (pe_lamV hL hfree hdef) pa_nil n3) n2) n1) hdb n1 hpl).weak fun σ H Q ⟨B, O, env, d, rl, h, qq⟩ => ?_
  obtain ⟨ds, hd, hG⟩ := bnd h
  obtain ⟨x1, hx1, hd⟩ := bnd hd
  obtain ⟨l, hl, hd⟩ := bnd hd
  obtain ⟨x2, hx2, hl⟩ := bnd hl
  obtain ⟨l2, hl2, hl⟩ := bnd hl
  cases hl2
  cases hl
  cases hd
  refine ⟨B, O, env, x1, rl, hx1, fun v1 H1 s1 r1 => ⟨B, O, env, x2, rl.heap s1, hx2, fun v2 H2 s2 r2 => ⟨((rl.heap s1).heap s2).same.tabs B.tb, fun f c' H3 s3 lv => ?_⟩⟩⟩
  have rl3 := ((rl.heap s1).heap s2).heap s3
  refine ⟨Lv B O false, v1, v2, x1, x2, f, c', d, rfl, rl3.fr, (r1.same s2).same s3, r2.same s3, lv, hG, fun v H' s' rv => ?_⟩
  exact qq v H' (((s1.trans s2).trans s3).trans s') (rv.mono (fun a h => Lv.mono h) keepRefl)
end
end PV

namespace PV
variable [LT] [RT]
open PySem PySem.Spec PyProof.Rows L2
def retLam (s : Stmt) : Option (Arguments × Expr × Scope) := match defBody s with
  | [.Return (some (.Call _ [_, _, .Lambda pa b sc _] _ _)) _] => some (pa, b, sc)
  | _ => none
section
variable {X : Cx}
theorem ps_lcJ {elt tg iter : Expr} {scope : Scope} {own : List (Str × Nat)} {pos spos py : Pos} {di : Ax} {g : Tg} {tel : TE} {i : Nat} {y : Str} (hc : X.calm = true) (hN : X.N.Nodup) (hsw : swapsWith (.ListComp elt [⟨tg, iter, [], 0⟩] scope pos) (some (.Name y py)) spos.line X.env = pure true) (hi : SI X tg iter di) (ok : BlkOk X.N X.env.scope scope own)
    (hg : ∀ (s : Shared) (H : Hp) (C : Addr) (cl : List (Str × Addr)) (fp : List Addr), PT1 (X.blk s H scope (compEnvC scope cl C X.env) fp) tg g)
    (he : ∀ (s : Shared) (H : Hp) (C : Addr) (cl : List (Str × Addr)) (fp : List Addr), PE (X.blk s H scope (compEnvC scope cl C X.env) fp) elt tel) (hy : X.N[i]? = some y := by rfl) (hyl : X.env.scope.names.lookup y = some .local := by rfl) (hs : ∀ x, foldedSetIterable iter X.env x = pure x := by intro _; rfl) {ws : List Nat} (hws : own.map (·.2) = ws := by rfl) :
    PS X (.Assign [.Name y py] (.ListComp elt [⟨tg, iter, [], 0⟩] scope pos) spos) (tAsg (tLc (tI X.K X.mg di) (tgR X.K g) tYes tel ws) (gName i)) := by
  subst hws
  exact ps_setLc (te := tel) hc hN hy hyl hsw hi ok (g := tgR X.K g) hg (fun _ _ _ _ _ => pts_nil) he hs
end
end PV

namespace PV
open PySem PySem.Spec PyProof.Rows L2
section
variable {P : Program} {w : World} {K : PySem.W.Frag} {mg : Str → Option Value} {base : Heap}
variable [LT]
def N__law_cell : List Str := ["_law_script", "_law_k"]
def F__law_cell : Fn := fnc 2 2
    (sq (ifS (cmp ltD (var 1) (cal (f1 lenD) (aC (var 0) aN)))
      (rt (op2 getD (var 0) (var 1)))
      skip)
      (rt (cst (.int 0))))
theorem sc__law_cell : FnScope N__law_cell ["_law_script", "_law_k"] (defScope (topS 37)) := ⟨rfl, rfl, rfl, by decide +kernel, rfl, by decide +kernel, by decide +kernel⟩
theorem ok__law_cell (Z : ZF fa fn exl K mg) (B : LB K mg base ls) : CallOk P w K mg base 1 "_law_cell" F__law_cell := by
  obtain ⟨fd, F⟩ := Z.says.def_ 0 (d := d0)
  have sc := sc__law_cell
  exact ⟨_, fd, _, fn_sound F sc fun cdv A outer s H hr =>
    (ss_cons (s_if (st_cmp op_ltD (se_var 1) (se_bltI imm_lenD cr_lenD (Z.free 12) boot_len (sa_cons (se_var 0) sa_nil)))
      (ss_one (s_ret (se_get (se_var 0) (se_var 1))))
      ss_nil)
      (ss_one (s_ret se_int))), (Z.glo 27), F.kp, (F.bindsN fun _ _ _ _ _ _ us hl => match us, hl with | [_, _], _ => rfl)⟩
def N__law_shape : List Str := ["_law_cell_here", "_law_shapes"]
def F__law_shape : Fn := fnc 1 2
    (sq (setE 1 (lstE (aC (tupE (aC (cst (.int 2)) (aC (cst (.int 1)) aN))) (aC (tupE (aC (cst (.int 2)) (aC (cst (.int 2)) aN))) (aC (tupE (aC (cst (.int 2)) (aC (cst (.int 3)) aN))) (aC (tupE (aC (cst (.int 3)) (aC (cst (.int 1)) aN))) (aC (tupE (aC (cst (.int 3)) (aC (cst (.int 2)) aN))) (aC (tupE (aC (cst (.int 5)) (aC (cst (.int 1)) aN))) (aC (tupE (aC (cst (.int 2)) (aC (cst (.int 4)) aN))) (aC (tupE (aC (cst (.int 3)) (aC (cst (.int 3)) aN))) (aC (tupE (aC (cst (.int 7)) (aC (cst (.int 1)) aN))) (aC (tupE (aC (cst (.int 5)) (aC (cst (.int 2)) aN))) (aC (tupE (aC (cst (.int 2)) (aC (cst (.int 5)) aN))) (aC (tupE (aC (cst (.int 7)) (aC (cst (.int 2)) aN))) aN))))))))))))))
      (rt (op2 getD (var 1) (op2 modD (cal (f1 intD) (aC (var 0) aN)) (cst (.int 12))))))
theorem sc__law_shape : FnScope N__law_shape ["_law_cell_here"] (defScope (topS 39)) := ⟨rfl, rfl, rfl, by decide +kernel, rfl, by decide +kernel, by decide +kernel⟩
theorem ok__law_shape (Z : ZF fa fn exl K mg) (B : LB K mg base ls) : CallOk P w K mg base 1 "_law_shape" F__law_shape := by
  obtain ⟨fd, F⟩ := Z.says.def_ 1 (d := d1)
  have sc := sc__law_shape
  exact ⟨_, fd, _, fn_sound F sc fun cdv A outer s H hr =>
    (ss_cons (s_set sc.nd (SN.se (sn_lst (sa_cons (se_tup (sa_cons se_int (sa_cons se_int sa_nil))) (sa_cons (se_tup (sa_cons se_int (sa_cons se_int sa_nil))) (sa_cons (se_tup (sa_cons se_int (sa_cons se_int sa_nil))) (sa_cons (se_tup (sa_cons se_int (sa_cons se_int sa_nil))) (sa_cons (se_tup (sa_cons se_int (sa_cons se_int sa_nil))) (sa_cons (se_tup (sa_cons se_int (sa_cons se_int sa_nil))) (sa_cons (se_tup (sa_cons se_int (sa_cons se_int sa_nil))) (sa_cons (se_tup (sa_cons se_int (sa_cons se_int sa_nil))) (sa_cons (se_tup (sa_cons se_int (sa_cons se_int sa_nil))) (sa_cons (se_tup (sa_cons se_int (sa_cons se_int sa_nil))) (sa_cons (se_tup (sa_cons se_int (sa_cons se_int sa_nil))) (sa_cons (se_tup (sa_cons se_int (sa_cons se_int sa_nil))) sa_nil)))))))))))))))
      (ss_one (s_ret (se_get (se_var 1) (se_op2 op_modD (se_btyI imm_intD cr_intD (Z.free 0) PyProof.Rows.boot_int (sa_cons (se_var 0) sa_nil)) se_int))))), (Z.glo 28), F.kp, (F.bindsN fun _ _ _ _ _ _ us hl => match us, hl with | [_], _ => rfl)⟩
def N__law_names : List Str := ["_law_cell_here", "_law_count", "_law_menu", "_law_start", "_law_step", "_law_k"]
def F__law_names : Fn := fnc 2 6
    (sq (setE 2 (lstE (aC (cst (.str "x")) (aC (cst (.str "y")) (aC (cst (.str "z")) (aC (cst (.str "x1")) (aC (cst (.str "b")) (aC (cst (.str "word")) (aC (cst (.str "k9")) (aC (cst (.str "verylongname")) aN))))))))))
      (sq (setE 3 (op2 modD (cal (f1 intD) (aC (var 0) aN)) (cst (.int 8))))
      (sq (setE 4 (op2 getD (lstE (aC (cst (.int 1)) (aC (cst (.int 3)) (aC (cst (.int 5)) (aC (cst (.int 7)) aN))))) (op2 modD (cal (f1 intD) (aC (op2 divD (var 0) (cst (.int 8))) aN)) (cst (.int 4)))))
      (rt (lcE (iRng (one1 (aC (var 1) aN))) (.n 5) yes (op2 getD (var 2) (op2 modD (cal (f1 intD) (aC (op2 addD (var 3) (op2 mulD (var 4) (var 5))) aN)) (cst (.int 8)))) [5])))))
theorem sc__law_names : FnScope N__law_names ["_law_cell_here", "_law_count"] (defScope (topS 40)) := ⟨rfl, rfl, rfl, by decide +kernel, rfl, by decide +kernel, by decide +kernel⟩
theorem ok__law_names (Z : ZF fa fn exl K mg) (B : LB K mg base ls) : CallOk P w K mg base 1 "_law_names" F__law_names := by
  obtain ⟨fd, F⟩ := Z.says.def_ 2 (d := d2)
  have sc := sc__law_names
  exact ⟨_, fd, _, fn_sound F sc fun cdv A outer s H hr =>
    (ss_cons (s_set sc.nd (SN.se (sn_lst (sa_cons se_str (sa_cons se_str (sa_cons se_str (sa_cons se_str (sa_cons se_str (sa_cons se_str (sa_cons se_str (sa_cons se_str sa_nil)))))))))))
      (ss_cons (s_set sc.nd (se_op2 op_modD (se_btyI imm_intD cr_intD (Z.free 0) PyProof.Rows.boot_int (sa_cons (se_var 0) sa_nil)) se_int))
      (ss_cons (s_set sc.nd (se_get (SN.se (sn_lst (sa_cons se_int (sa_cons se_int (sa_cons se_int (sa_cons se_int sa_nil)))))) (se_op2 op_modD (se_btyI imm_intD cr_intD (Z.free 0) PyProof.Rows.boot_int (sa_cons (se_op2 op_divD (se_var 0) se_int) sa_nil)) se_int)))
      (ss_one (s_ret (SN.se (sn_lc rfl sc.nd (si_rng1 (Z.free 1) (sa_cons (se_var 1) sa_nil)) (blkOk_by (own := [("_law_k", 5)]) (N := N__law_names) (sc := defScope (topS 40)) (by decide +kernel)) (fun _ _ _ _ _ => (g_n 5 sc.nd)) (fun _ _ _ _ _ => (se_get (se_var 2) (se_op2 op_modD (se_btyI imm_intD cr_intD (Z.free 0) PyProof.Rows.boot_int (sa_cons (se_op2 op_addD (se_var 3) (se_op2 op_mulD (se_var 4) (se_var 5))) sa_nil)) se_int)))))))))), (Z.glo 29), F.kp, (F.bindsN fun _ _ _ _ _ _ us hl => match us, hl with | [_, _], _ => rfl)⟩
def N__law_digits : List Str := ["_law_cell_here", "_law_many", "_law_count", "_law_digits_here", "_law_rest", "_law_k", "_law_mixed"]
def F__law_digits : Fn := fnc 3 7
    (sq (newE 3 (lstE aN))
      (sq (setE 4 (var 0))
      (sq (forE (iRng (one1 (aC (var 2) aN))) (.n 5)
      (ifS (cmp (flip leD) (var 0) (op2 powD (cst (.int 10)) (cst (.int 18))))
      (sq (app 3 (op2 modD (cal (f1 intD) (aC (var 4) aN)) (var 1)))
      (setE 4 (op2 divD (var 4) (var 1))))
      (sq (setE 6 (op2 modD (cal (f1 intD) (aC (op2 addD (op2 addD (op2 mulD (var 0) (cst (.int 48271))) (op2 mulD (var 5) (cst (.int 69621)))) (cst (.int 1013))) aN)) (cst (.int 2147483647))))
      (sq (setE 6 (op2 modD (cal (f1 intD) (aC (op2 addD (op2 addD (op2 mulD (var 6) (var 6)) (op2 mulD (cst (.int 7)) (var 6))) (var 5)) aN)) (cst (.int 2147483629))))
      (app 3 (op2 modD (cal (f1 intD) (aC (op2 divD (var 6) (cst (.int 31))) aN)) (var 1)))))))
      (rt (ovar 3)))))
theorem sc__law_digits : FnScope N__law_digits ["_law_cell_here", "_law_many", "_law_count"] (defScope (topS 38)) := ⟨rfl, rfl, rfl, by decide +kernel, rfl, by decide +kernel, by decide +kernel⟩
theorem ok__law_digits (Z : ZF fa fn exl K mg) (B : LB K mg base ls) : CallOk P w K mg base 1 "_law_digits" F__law_digits := by
  obtain ⟨fd, F⟩ := Z.says.def_ 3 (d := d3)
  have sc := sc__law_digits
  exact ⟨_, fd, _, fn_sound F sc fun cdv A outer s H hr =>
    (ss_cons (s_new sc.nd (sn_lst sa_nil))
      (ss_cons (s_set sc.nd (se_var 0))
      (ss_cons (s_for PassesOwn.never rfl (si_rng1 (Z.free 1) (sa_cons (se_var 2) sa_nil)) (g_n 5 sc.nd)
      (ss_one (s_if (st_cmp op_geD (se_var 0) (se_op2 op_powD se_int se_int))
      (ss_cons (s_app (se_op2 op_modD (se_btyI imm_intD cr_intD (Z.free 0) PyProof.Rows.boot_int (sa_cons (se_var 4) sa_nil)) (se_var 1)))
      (ss_one (s_set sc.nd (se_op2 op_divD (se_var 4) (se_var 1)))))
      (ss_cons (s_set sc.nd (se_op2 op_modD (se_btyI imm_intD cr_intD (Z.free 0) PyProof.Rows.boot_int (sa_cons (se_op2 op_addD (se_op2 op_addD (se_op2 op_mulD (se_var 0) se_int) (se_op2 op_mulD (se_var 5) se_int)) se_int) sa_nil)) se_int))
      (ss_cons (s_set sc.nd (se_op2 op_modD (se_btyI imm_intD cr_intD (Z.free 0) PyProof.Rows.boot_int (sa_cons (se_op2 op_addD (se_op2 op_addD (se_op2 op_mulD (se_var 6) (se_var 6)) (se_op2 op_mulD se_int (se_var 6))) (se_var 5)) sa_nil)) se_int))
      (ss_one (s_app (se_op2 op_modD (se_btyI imm_intD cr_intD (Z.free 0) PyProof.Rows.boot_int (sa_cons (se_op2 op_divD (se_var 6) se_int) sa_nil)) (se_var 1)))))))))
      (ss_one (s_ret (se_ovar 3)))))), (Z.glo 30), F.kp, (F.bindsN fun _ _ _ _ _ _ us hl => match us, hl with | [_, _, _], _ => rfl)⟩
def N__law_points : List Str := ["_law_prime", "_law_count", "_law_found", "_law_k", "_law_longer", "_law_row", "_law_number"]
def F__law_points : Fn := fnc 2 7
    (sq (setE 2 (lstE (aC (tupE aN) aN)))
      (sq (forE (iRng (one1 (aC (var 1) aN))) (.n 3)
      (sq (newE 4 (lstE aN))
      (sq (forE (iLst (var 2)) (.n 5)
      (ext 4 (lcE (iRng (one1 (aC (var 0) aN))) (.n 6) yes (op2 addD (var 5) (tupE (aC (var 6) aN))) [6])))
      (mov 2 4))))
      (rt (var 2))))
theorem sc__law_points : FnScope N__law_points ["_law_prime", "_law_count"] (defScope (topS 41)) := ⟨rfl, rfl, rfl, by decide +kernel, rfl, by decide +kernel, by decide +kernel⟩
theorem ok__law_points (Z : ZF fa fn exl K mg) (B : LB K mg base ls) : CallOk P w K mg base 1 "_law_points" F__law_points := by
  obtain ⟨fd, F⟩ := Z.says.def_ 4 (d := d4)
  have sc := sc__law_points
  exact ⟨_, fd, _, fn_sound F sc fun cdv A outer s H hr =>
    (ss_cons (s_set sc.nd (SN.se (sn_lst (sa_cons (se_tup sa_nil) sa_nil))))
      (ss_cons (s_for PassesOwn.never rfl (si_rng1 (Z.free 1) (sa_cons (se_var 1) sa_nil)) (g_n 3 sc.nd)
      (ss_cons (s_new sc.nd (sn_lst sa_nil))
      (ss_cons (s_for PassesOwn.never rfl (si_list (se_var 2)) (g_n 5 sc.nd)
      (ss_one (s_ext (SN.se (sn_lc rfl sc.nd (si_rng1 (Z.free 1) (sa_cons (se_var 0) sa_nil)) (blkOk_by (own := [("_law_number", 6)]) (N := N__law_points) (sc := defScope (topS 41)) (by decide +kernel)) (fun _ _ _ _ _ => (g_n 6 sc.nd)) (fun _ _ _ _ _ => (se_op2 op_addD (se_var 5) (se_tup (sa_cons (se_var 6) sa_nil)))))))))
      (ss_one (s_mov sc.nd)))))
      (ss_one (s_ret (se_var 2))))), (Z.glo 31), F.kp, (F.bindsN fun _ _ _ _ _ _ us hl => match us, hl with | [_, _], _ => rfl)⟩
def N__law_made : List Str := ["_law_prime", "_law_numbers", "_law_rows", "_law_power", "_law_row"]
def F__law_made : Fn := fnc 2 5
    (sq (setE 2 (lcE (iLst (op1 sortKL (var 1))) (.n 3) yes (tupE (aC (var 3) (aC (op2 modD (cal (f1 intD) (aC (op2 getK (var 1) (var 3)) aN)) (var 0)) aN))) [3]))
      (rt (op1 ftupD (lcE (iLst (op1 revL (var 2))) (.n 4) (cmp (neg eqD) (op2 getD (var 4) (cst (.int 1))) (cst (.int 0))) (var 4) [4]))))
theorem sc__law_made : FnScope N__law_made ["_law_prime", "_law_numbers"] (defScope (topS 42)) := ⟨rfl, rfl, rfl, by decide +kernel, rfl, by decide +kernel, by decide +kernel⟩
theorem ok__law_made (Z : ZF fa fn exl K mg) (B : LB K mg base ls) : CallOk P w K mg base 1 "_law_made" F__law_made := by
  obtain ⟨fd, F⟩ := Z.says.def_ 5 (d := d5)
  have sc := sc__law_made
  exact ⟨_, fd, _, fn_sound F sc fun cdv A outer s H hr =>
    (ss_cons (s_setLc rfl sc.nd (sw_true rfl rfl rfl (by decide +kernel)) (si_list (SN.se (sn_sortKL rfl hr.units (Z.free 16) (se_var 1)))) (blkOk_by (own := [("_law_power", 3)]) (N := N__law_made) (sc := defScope (topS 42)) (by decide +kernel)) (fun _ _ _ _ _ => (g_n 3 sc.nd)) (fun _ _ _ _ _ => (se_tup (sa_cons (se_var 3) (sa_cons (se_op2 op_modD (se_btyI imm_intD cr_intD (Z.free 0) PyProof.Rows.boot_int (sa_cons (se_getK (hu_of hr) (se_var 1) (se_var 3)) sa_nil)) (se_var 0)) sa_nil)))))
      (ss_one (s_ret (se_ftuple (Z.free 15) (SN.se (sn_lcI rfl sc.nd (si_list (SN.se (sn_rev (se_var 2)))) (blkOk_by (own := [("_law_row", 4)]) (N := N__law_made) (sc := defScope (topS 42)) (by decide +kernel)) (fun _ _ _ _ _ => (g_n 4 sc.nd)) (fun _ _ _ _ _ => (st_cmp (op_neDD hr.units) (se_get (se_var 4) se_int) se_int)) (fun _ _ _ _ _ => (se_var 4)))))))), (Z.glo 32), F.kp, (F.bindsN fun _ _ _ _ _ _ us hl => match us, hl with | [_, _], _ => rfl)⟩
def N__law_drawn : List Str := ["_law_prime", "_law_count", "_law_cell_here", "_law_digits_here", "_law_numbers", "_law_k", "_law_part", "_law_power", "_law_j"]
def F__law_drawn : Fn := fnc 3 9
    (sq (setE 3 (cal F__law_digits (aC (var 2) (aC (cst (.int 420)) (aC (op2 addD (op2 mulD (cst (.int 6)) (op2 addD (var 1) (cst (.int 1)))) (cst (.int 1))) aN)))))
      (sq (newE 4 (cst (.dic true [] [])))
      (sq (forE (iRng (one1 (aC (op2 modD (cal (f1 intD) (aC (op2 getD (var 3) (cst (.int 0))) aN)) (cst (.int 7))) aN))) (.n 5)
      (sq (setE 6 (slE slcL (var 3) (prt (op2 addD (cst (.int 1)) (op2 mulD (var 5) (op2 addD (var 1) (cst (.int 1)))))) (prt (op2 addD (cst (.int 1)) (op2 mulD (op2 addD (var 5) (cst (.int 1))) (op2 addD (var 1) (cst (.int 1))))))))
      (sq (setE 7 (op1 tupD (lcE (iRng (one1 (aC (var 1) aN))) (.n 8) yes (op2 modD (cal (f1 intD) (aC (op2 getD (var 6) (var 8)) aN)) (var 0)) [8])))
      (stK 4 (var 7) (op2 addD (cst (.int 1)) (op2 modD (cal (f1 intD) (aC (op2 getD (var 6) (var 1)) aN)) (op2 subD (var 0) (cst (.int 1)))))))))
      (rt (cal F__law_made (aC (var 0) (aC (ovar 4) aN)))))))
theorem sc__law_drawn : FnScope N__law_drawn ["_law_prime", "_law_count", "_law_cell_here"] (defScope (topS 43)) := ⟨rfl, rfl, rfl, by decide +kernel, rfl, by decide +kernel, by decide +kernel⟩
theorem ok__law_drawn (Z : ZF fa fn exl K mg) (B : LB K mg base ls) : CallOk P w K mg base 2 "_law_drawn" F__law_drawn := by
  obtain ⟨fd, F⟩ := Z.says.def_ 6 (d := d6)
  have sc := sc__law_drawn
  exact ⟨_, fd, _, fn_sound F sc fun cdv A outer s H hr =>
    (ss_cons (s_set sc.nd (se_cal (ok__law_digits Z B) (hr.mono (by decide)) (sa_cons (se_var 2) (sa_cons se_int (sa_cons (se_op2 op_addD (se_op2 op_mulD se_int (se_op2 op_addD (se_var 1) se_int)) se_int) sa_nil)))))
      (ss_cons (s_new sc.nd sn_dnewT)
      (ss_cons (s_for PassesOwn.never rfl (si_rng1 (Z.free 1) (sa_cons (se_op2 op_modD (se_btyI imm_intD cr_intD (Z.free 0) PyProof.Rows.boot_int (sa_cons (se_get (se_var 3) se_int) sa_nil)) se_int) sa_nil)) (g_n 5 sc.nd)
      (ss_cons (s_set sc.nd (SN.se (sn_slL (se_var 3) (so_some (se_op2 op_addD se_int (se_op2 op_mulD (se_var 5) (se_op2 op_addD (se_var 1) se_int)))) (so_some (se_op2 op_addD se_int (se_op2 op_mulD (se_op2 op_addD (se_var 5) se_int) (se_op2 op_addD (se_var 1) se_int)))))))
      (ss_cons (s_set sc.nd (se_tuple (Z.free 15) (SN.se (sn_lc rfl sc.nd (si_rng1 (Z.free 1) (sa_cons (se_var 1) sa_nil)) (blkOk_by (own := [("_law_j", 8)]) (N := N__law_drawn) (sc := defScope (topS 43)) (by decide +kernel)) (fun _ _ _ _ _ => (g_n 8 sc.nd)) (fun _ _ _ _ _ => (se_op2 op_modD (se_btyI imm_intD cr_intD (Z.free 0) PyProof.Rows.boot_int (sa_cons (se_get (se_var 6) (se_var 8)) sa_nil)) (se_var 0)))))))
      (ss_one (s_stK (hu_of hr) (se_var 7) (se_op2 op_addD se_int (se_op2 op_modD (se_btyI imm_intD cr_intD (Z.free 0) PyProof.Rows.boot_int (sa_cons (se_get (se_var 6) (se_var 1)) sa_nil)) (se_op2 op_subD (se_var 0) se_int))))))))
      (ss_one (s_ret (se_cal (ok__law_made Z B) (hr.mono (by decide)) (sa_cons (se_var 0) (sa_cons (se_ovar 4) sa_nil)))))))), (Z.glo 33), F.kp, (F.bindsN fun _ _ _ _ _ _ us hl => match us, hl with | [_, _, _], _ => rfl)⟩
def N__law_power_value : List Str := ["_law_prime", "_law_power", "_law_point", "_law_found", "_law_k", "_law_turn"]
def F__law_power_value : Fn := fnc 3 6
    (sq (setE 3 (cst (.int 1)))
      (sq (forE (iRng (one1 (aC (cal (f1 lenD) (aC (var 1) aN)) aN))) (.n 4)
      (forE (iRng (one1 (aC (op2 getD (var 1) (var 4)) aN))) (.n 5)
      (setE 3 (op2 modD (cal (f1 intD) (aC (op2 mulD (var 3) (op2 getD (var 2) (var 4))) aN)) (var 0)))))
      (rt (var 3))))
theorem sc__law_power_value : FnScope N__law_power_value ["_law_prime", "_law_power", "_law_point"] (defScope (topS 44)) := ⟨rfl, rfl, rfl, by decide +kernel, rfl, by decide +kernel, by decide +kernel⟩
theorem ok__law_power_value (Z : ZF fa fn exl K mg) (B : LB K mg base ls) : CallOk P w K mg base 1 "_law_power_value" F__law_power_value := by
  obtain ⟨fd, F⟩ := Z.says.def_ 7 (d := d7)
  have sc := sc__law_power_value
  exact ⟨_, fd, _, fn_sound F sc fun cdv A outer s H hr =>
    (ss_cons (s_set sc.nd se_int)
      (ss_cons (s_for PassesOwn.never rfl (si_rng1 (Z.free 1) (sa_cons (se_bltI imm_lenD cr_lenD (Z.free 12) boot_len (sa_cons (se_var 1) sa_nil)) sa_nil)) (g_n 4 sc.nd)
      (ss_one (s_for PassesOwn.never rfl (si_rng1 (Z.free 1) (sa_cons (se_get (se_var 1) (se_var 4)) sa_nil)) (g_n 5 sc.nd)
      (ss_one (s_set sc.nd (se_op2 op_modD (se_btyI imm_intD cr_intD (Z.free 0) PyProof.Rows.boot_int (sa_cons (se_op2 op_mulD (se_var 3) (se_get (se_var 2) (se_var 4))) sa_nil)) (se_var 0)))))))
      (ss_one (s_ret (se_var 3))))), (Z.glo 34), F.kp, (F.bindsN fun _ _ _ _ _ _ us hl => match us, hl with | [_, _, _], _ => rfl)⟩
def N__law_value : List Str := ["_law_prime", "_law_one", "_law_point", "_law_total", "_law_power", "_law_number"]
def F__law_value : Fn := fnc 3 6
    (sq (setE 3 (cst (.int 0)))
      (sq (forE (iTp (var 1)) (.t [(.n 4), (.n 5)])
      (setE 3 (op2 addD (var 3) (op2 mulD (var 5) (cal F__law_power_value (aC (var 0) (aC (var 4) (aC (var 2) aN))))))))
      (rt (op2 modD (cal (f1 intD) (aC (var 3) aN)) (var 0)))))
theorem sc__law_value : FnScope N__law_value ["_law_prime", "_law_one", "_law_point"] (defScope (topS 45)) := ⟨rfl, rfl, rfl, by decide +kernel, rfl, by decide +kernel, by decide +kernel⟩
theorem ok__law_value (Z : ZF fa fn exl K mg) (B : LB K mg base ls) : CallOk P w K mg base 2 "_law_value" F__law_value := by
  obtain ⟨fd, F⟩ := Z.says.def_ 8 (d := d8)
  have sc := sc__law_value
  exact ⟨_, fd, _, fn_sound F sc fun cdv A outer s H hr =>
    (ss_cons (s_set sc.nd se_int)
      (ss_cons (s_for PassesOwn.never rfl (si_tup (se_var 1)) (g_t rfl (gs_cons (g_n 4 sc.nd) (gs_cons (g_n 5 sc.nd) gs_nil)))
      (ss_one (s_set sc.nd (se_op2 op_addD (se_var 3) (se_op2 op_mulD (se_var 5) (se_cal (ok__law_power_value Z B) (hr.mono (by decide)) (sa_cons (se_var 0) (sa_cons (se_var 4) (sa_cons (se_var 2) sa_nil)))))))))
      (ss_one (s_ret (se_op2 op_modD (se_btyI imm_intD cr_intD (Z.free 0) PyProof.Rows.boot_int (sa_cons (se_var 3) sa_nil)) (se_var 0)))))), (Z.glo 35), F.kp, (F.bindsN fun _ _ _ _ _ _ us hl => match us, hl with | [_, _, _], _ => rfl)⟩
def N__law_constant : List Str := ["_law_prime", "_law_count", "_law_number"]
def F__law_constant : Fn := fnc 3 3
    (rt (cal F__law_made (aC (var 0) (aC (dic1 (op2 mulD (tupE (aC (cst (.int 0)) aN)) (var 1)) (var 2)) aN))))
theorem sc__law_constant : FnScope N__law_constant ["_law_prime", "_law_count", "_law_number"] (defScope (topS 50)) := ⟨rfl, rfl, rfl, by decide +kernel, rfl, by decide +kernel, by decide +kernel⟩
theorem ok__law_constant (Z : ZF fa fn exl K mg) (B : LB K mg base ls) : CallOk P w K mg base 2 "_law_constant" F__law_constant := by
  obtain ⟨fd, F⟩ := Z.says.def_ 9 (d := d9)
  have sc := sc__law_constant
  exact ⟨_, fd, _, fn_sound F sc fun cdv A outer s H hr =>
    (ss_one (s_ret (se_cal (ok__law_made Z B) (hr.mono (by decide)) (sa_cons (se_var 0) (sa_cons (SN.se (sn_dic1 (hu_of hr) (se_op2 op_mulD (se_tup (sa_cons se_int sa_nil)) (se_var 1)) (se_var 2))) sa_nil))))), (Z.glo 36), F.kp, (F.bindsN fun _ _ _ _ _ _ us hl => match us, hl with | [_, _, _], _ => rfl)⟩
def N__law_scaled : List Str := ["_law_prime", "_law_one", "_law_number", "_law_rows", "_law_power", "_law_each", "_law_row"]
def F__law_scaled : Fn := fnc 3 7
    (sq (setE 3 (lcE (iTp (var 1)) (.t [(.n 4), (.n 5)]) yes (tupE (aC (var 4) (aC (op2 modD (cal (f1 intD) (aC (op2 mulD (var 5) (var 2)) aN)) (var 0)) aN))) [4, 5]))
      (rt (op1 ftupD (lcE (iLst (var 3)) (.n 6) (cmp (neg eqD) (op2 getD (var 6) (cst (.int 1))) (cst (.int 0))) (var 6) [6]))))
theorem sc__law_scaled : FnScope N__law_scaled ["_law_prime", "_law_one", "_law_number"] (defScope (topS 48)) := ⟨rfl, rfl, rfl, by decide +kernel, rfl, by decide +kernel, by decide +kernel⟩
theorem ok__law_scaled (Z : ZF fa fn exl K mg) (B : LB K mg base ls) : CallOk P w K mg base 1 "_law_scaled" F__law_scaled := by
  obtain ⟨fd, F⟩ := Z.says.def_ 10 (d := d10)
  have sc := sc__law_scaled
  exact ⟨_, fd, _, fn_sound F sc fun cdv A outer s H hr =>
    (ss_cons (s_setLc rfl sc.nd (sw_true rfl rfl rfl (by decide +kernel)) (si_tup (se_var 1)) (blkOk_by (own := [("_law_power", 4), ("_law_each", 5)]) (N := N__law_scaled) (sc := defScope (topS 48)) (by decide +kernel)) (fun _ _ _ _ _ => (g_t rfl (gs_cons (g_n 4 sc.nd) (gs_cons (g_n 5 sc.nd) gs_nil)))) (fun _ _ _ _ _ => (se_tup (sa_cons (se_var 4) (sa_cons (se_op2 op_modD (se_btyI imm_intD cr_intD (Z.free 0) PyProof.Rows.boot_int (sa_cons (se_op2 op_mulD (se_var 5) (se_var 2)) sa_nil)) (se_var 0)) sa_nil)))))
      (ss_one (s_ret (se_ftuple (Z.free 15) (SN.se (sn_lcI rfl sc.nd (si_list (se_var 3)) (blkOk_by (own := [("_law_row", 6)]) (N := N__law_scaled) (sc := defScope (topS 48)) (by decide +kernel)) (fun _ _ _ _ _ => (g_n 6 sc.nd)) (fun _ _ _ _ _ => (st_cmp (op_neDD hr.units) (se_get (se_var 6) se_int) se_int)) (fun _ _ _ _ _ => (se_var 6)))))))), (Z.glo 37), F.kp, (F.bindsN fun _ _ _ _ _ _ us hl => match us, hl with | [_, _, _], _ => rfl)⟩
def N__law_plus : List Str := ["_law_prime", "_law_one", "_law_other", "_law_numbers", "_law_power", "_law_number"]
def F__law_plus : Fn := fnc 3 6
    (sq (newE 3 (cst (.dic true [] [])))
      (sq (forE (iTp (op2 addD (var 1) (var 2))) (.t [(.n 4), (.n 5)])
      (stK 3 (var 4) (imm (op2 addD (op3 getK2 (ovar 3) (var 4) (cst (.int 0))) (var 5)))))
      (rt (cal F__law_made (aC (var 0) (aC (ovar 3) aN))))))
theorem sc__law_plus : FnScope N__law_plus ["_law_prime", "_law_one", "_law_other"] (defScope (topS 47)) := ⟨rfl, rfl, rfl, by decide +kernel, rfl, by decide +kernel, by decide +kernel⟩
theorem ok__law_plus (Z : ZF fa fn exl K mg) (B : LB K mg base ls) : CallOk P w K mg base 2 "_law_plus" F__law_plus := by
  obtain ⟨fd, F⟩ := Z.says.def_ 11 (d := d11)
  have sc := sc__law_plus
  exact ⟨_, fd, _, fn_sound F sc fun cdv A outer s H hr =>
    (ss_cons (s_new sc.nd sn_dnewT)
      (ss_cons (s_for PassesOwn.never rfl (si_tup (se_op2 op_addD (se_var 1) (se_var 2))) (g_t rfl (gs_cons (g_n 4 sc.nd) (gs_cons (g_n 5 sc.nd) gs_nil)))
      (ss_one (s_stK (hu_of hr) (se_var 4) (se_imm (se_op2 op_addD (se_getK2 (hu_of hr) (se_ovar 3) (se_var 4) se_int) (se_var 5))))))
      (ss_one (s_ret (se_cal (ok__law_made Z B) (hr.mono (by decide)) (sa_cons (se_var 0) (sa_cons (se_ovar 3) sa_nil))))))), (Z.glo 38), F.kp, (F.bindsN fun _ _ _ _ _ _ us hl => match us, hl with | [_, _, _], _ => rfl)⟩
def N__law_minus : List Str := ["_law_prime", "_law_one", "_law_other"]
def F__law_minus : Fn := fnc 3 3
    (rt (cal F__law_plus (aC (var 0) (aC (var 1) (aC (cal F__law_scaled (aC (var 0) (aC (var 2) (aC (op2 subD (var 0) (cst (.int 1))) aN)))) aN)))))
theorem sc__law_minus : FnScope N__law_minus ["_law_prime", "_law_one", "_law_other"] (defScope (topS 49)) := ⟨rfl, rfl, rfl, by decide +kernel, rfl, by decide +kernel, by decide +kernel⟩
theorem ok__law_minus (Z : ZF fa fn exl K mg) (B : LB K mg base ls) : CallOk P w K mg base 3 "_law_minus" F__law_minus := by
  obtain ⟨fd, F⟩ := Z.says.def_ 12 (d := d12)
  have sc := sc__law_minus
  exact ⟨_, fd, _, fn_sound F sc fun cdv A outer s H hr =>
    (ss_one (s_ret (se_cal (ok__law_plus Z B) (hr.mono (by decide)) (sa_cons (se_var 0) (sa_cons (se_var 1) (sa_cons (se_cal (ok__law_scaled Z B) (hr.mono (by decide)) (sa_cons (se_var 0) (sa_cons (se_var 2) (sa_cons (se_op2 op_subD (se_var 0) se_int) sa_nil)))) sa_nil)))))), (Z.glo 39), F.kp, (F.bindsN fun _ _ _ _ _ _ us hl => match us, hl with | [_, _, _], _ => rfl)⟩
def N__law_equations : List Str := ["_law_prime", "_law_count", "_law_cell_here", "_law_digits_here", "_law_points_here", "_law_point", "_law_found", "_law_k", "_law_one", "_law_power", "_law_number"]
def F__law_equations : Fn := fnc 3 11
    (sq (setE 3 (cal F__law_digits (aC (var 2) (aC (cst (.int 5040)) (aC (cst (.int 16)) aN)))))
      (sq (setE 4 (cal F__law_points (aC (var 0) (aC (var 1) aN))))
      (sq (setE 5 (op2 getD (var 4) (op2 modD (cal (f1 intD) (aC (op2 getD (var 3) (cst (.int 0))) aN)) (cal (f1 lenD) (aC (var 4) aN)))))
      (sq (newE 6 (lstE aN))
      (sq (forE (iRng (one1 (aC (op2 getD (lstE (aC (cst (.int 0)) (aC (cst (.int 1)) (aC (cst (.int 2)) (aC (cst (.int 2)) (aC (cst (.int 3)) (aC (cst (.int 1)) (aC (cst (.int 4)) aN)))))))) (op2 modD (cal (f1 intD) (aC (op2 getD (var 3) (cst (.int 1))) aN)) (cst (.int 7)))) aN))) (.n 7)
      (sq (setE 8 (cal F__law_drawn (aC (var 0) (aC (var 1) (aC (op2 addD (op2 getD (var 3) (op2 addD (cst (.int 2)) (op2 mulD (cst (.int 2)) (var 7)))) (op2 mulD (cst (.int 5040)) (op2 getD (var 3) (op2 addD (cst (.int 3)) (op2 mulD (cst (.int 2)) (var 7)))))) aN)))))
      (sq (ifS (cmp eqD (op2 modD (cal (f1 intD) (aC (op2 getD (var 3) (cst (.int 10))) aN)) (cst (.int 4))) (cst (.int 1)))
      (setE 8 (op1 tupD (lcE (iTp (var 8)) (.t [(.n 9), (.n 10)]) (cmp ltD (cal (f1 sumT) (aC (var 9) aN)) (cst (.int 2))) (tupE (aC (var 9) (aC (var 10) aN))) [9, 10])))
      skip)
      (sq (ifS (cmp (flip ltD) (op2 modD (cal (f1 intD) (aC (op2 getD (var 3) (cst (.int 11))) aN)) (cst (.int 4))) (cst (.int 0)))
      (setE 8 (cal F__law_minus (aC (var 0) (aC (var 8) (aC (cal F__law_constant (aC (var 0) (aC (var 1) (aC (cal F__law_value (aC (var 0) (aC (var 8) (aC (var 5) aN)))) aN)))) aN)))))
      skip)
      (app 6 (var 8))))))
      (rt (ovar 6)))))))
theorem sc__law_equations : FnScope N__law_equations ["_law_prime", "_law_count", "_law_cell_here"] (defScope (topS 53)) := ⟨rfl, rfl, rfl, by decide +kernel, rfl, by decide +kernel, by decide +kernel⟩
theorem ok__law_equations (Z : ZF fa fn exl K mg) (B : LB K mg base ls) : CallOk P w K mg base 4 "_law_equations" F__law_equations := by
  obtain ⟨fd, F⟩ := Z.says.def_ 13 (d := d13)
  have sc := sc__law_equations
  exact ⟨_, fd, _, fn_sound F sc fun cdv A outer s H hr =>
    (ss_cons (s_set sc.nd (se_cal (ok__law_digits Z B) (hr.mono (by decide)) (sa_cons (se_var 2) (sa_cons se_int (sa_cons se_int sa_nil)))))
      (ss_cons (s_set sc.nd (se_cal (ok__law_points Z B) (hr.mono (by decide)) (sa_cons (se_var 0) (sa_cons (se_var 1) sa_nil))))
      (ss_cons (s_set sc.nd (se_get (se_var 4) (se_op2 op_modD (se_btyI imm_intD cr_intD (Z.free 0) PyProof.Rows.boot_int (sa_cons (se_get (se_var 3) se_int) sa_nil)) (se_bltI imm_lenD cr_lenD (Z.free 12) boot_len (sa_cons (se_var 4) sa_nil)))))
      (ss_cons (s_new sc.nd (sn_lst sa_nil))
      (ss_cons (s_for PassesOwn.never rfl (si_rng1 (Z.free 1) (sa_cons (se_get (SN.se (sn_lst (sa_cons se_int (sa_cons se_int (sa_cons se_int (sa_cons se_int (sa_cons se_int (sa_cons se_int (sa_cons se_int sa_nil))))))))) (se_op2 op_modD (se_btyI imm_intD cr_intD (Z.free 0) PyProof.Rows.boot_int (sa_cons (se_get (se_var 3) se_int) sa_nil)) se_int)) sa_nil)) (g_n 7 sc.nd)
      (ss_cons (s_set sc.nd (se_cal (ok__law_drawn Z B) (hr.mono (by decide)) (sa_cons (se_var 0) (sa_cons (se_var 1) (sa_cons (se_op2 op_addD (se_get (se_var 3) (se_op2 op_addD se_int (se_op2 op_mulD se_int (se_var 7)))) (se_op2 op_mulD se_int (se_get (se_var 3) (se_op2 op_addD se_int (se_op2 op_mulD se_int (se_var 7)))))) sa_nil)))))
      (ss_cons (s_if (st_cmp (op_eqDD hr.units) (se_op2 op_modD (se_btyI imm_intD cr_intD (Z.free 0) PyProof.Rows.boot_int (sa_cons (se_get (se_var 3) se_int) sa_nil)) se_int) se_int)
      (ss_one (s_set sc.nd (se_tuple (Z.free 15) (SN.se (sn_lcI rfl sc.nd (si_tup (se_var 8)) (blkOk_by (own := [("_law_power", 9), ("_law_number", 10)]) (N := N__law_equations) (sc := defScope (topS 53)) (by decide +kernel)) (fun _ _ _ _ _ => (g_t rfl (gs_cons (g_n 9 sc.nd) (gs_cons (g_n 10 sc.nd) gs_nil)))) (fun _ _ _ _ _ => (st_cmp op_ltD (se_bltI imm_sumT (cr_sumT rfl) (Z.free 14) boot_sum (sa_cons (se_var 9) sa_nil)) se_int)) (fun _ _ _ _ _ => (se_tup (sa_cons (se_var 9) (sa_cons (se_var 10) sa_nil)))))))))
      ss_nil)
      (ss_cons (s_if (st_cmp op_gtD (se_op2 op_modD (se_btyI imm_intD cr_intD (Z.free 0) PyProof.Rows.boot_int (sa_cons (se_get (se_var 3) se_int) sa_nil)) se_int) se_int)
      (ss_one (s_set sc.nd (se_cal (ok__law_minus Z B) (hr.mono (by decide)) (sa_cons (se_var 0) (sa_cons (se_var 8) (sa_cons (se_cal (ok__law_constant Z B) (hr.mono (by decide)) (sa_cons (se_var 0) (sa_cons (se_var 1) (sa_cons (se_cal (ok__law_value Z B) (hr.mono (by decide)) (sa_cons (se_var 0) (sa_cons (se_var 8) (sa_cons (se_var 5) sa_nil)))) sa_nil)))) sa_nil))))))
      ss_nil)
      (ss_one (s_app (se_var 8)))))))
      (ss_one (s_ret (se_ovar 6)))))))), (Z.glo 40), F.kp, (F.bindsN fun _ _ _ _ _ _ us hl => match us, hl with | [_, _, _], _ => rfl)⟩
def N_is_name : List Str := ["text", "char"]
def F_is_name : Fn := fnc 1 2
    (sq (ifS (orT (notT (chn leD leD (cst (.int 1)) (cal (f1 lenD) (aC (var 0) aN)) (cst (.int 12)))) (cmp (neg inS) (op2 getD (var 0) (cst (.int 0))) (cst (.str "abcdefghijklmnopqrstuvwxyz"))))
      (rt (cst (.bl false)))
      skip)
      (rt (cal (f1 allL) (aC (lcE (iSt (var 0)) (.n 1) yes (orV (boo (cmp inS (var 1) (cst (.str "abcdefghijklmnopqrstuvwxyz")))) (boo (cmp inS (var 1) (cst (.str "0123456789"))))) [1]) aN))))
theorem sc_is_name : FnScope N_is_name ["text"] (defScope (topS 13)) := ⟨rfl, rfl, rfl, by decide +kernel, rfl, by decide +kernel, by decide +kernel⟩
theorem ok_is_name (Z : ZF fa fn exl K mg) (B : LB K mg base ls) : CallOk P w K mg base 1 "is_name" F_is_name := by
  obtain ⟨fd, F⟩ := Z.says.def_ 14 (d := d14)
  have sc := sc_is_name
  exact ⟨_, fd, _, fn_sound F sc fun cdv A outer s H hr =>
    (ss_cons (s_if (SWd.st (sw_or (st_not (st_chn op_leD op_leD se_int (se_bltI imm_lenD cr_lenD (Z.free 12) boot_len (sa_cons (se_var 0) sa_nil)) (se_gint (Z.int 22)))) (sw_or1 (st_cmp op_ninSD (se_get (se_var 0) se_int) (se_gstr (Z.str 23))))))
      (ss_one (s_ret se_bl))
      ss_nil)
      (ss_one (s_ret (se_bltI imm_allL (cr_allL rfl) (Z.free 13) boot_all (sa_cons (SN.se (sn_lc rfl sc.nd (si_str (se_var 0)) (blkOk_by (own := [("char", 1)]) (N := N_is_name) (sc := defScope (topS 13)) (by decide +kernel)) (fun _ _ _ _ _ => (g_n 1 sc.nd)) (fun _ _ _ _ _ => (se_or (se_cmp op_inSD (se_var 1) (se_gstr (Z.str 23))) (se_one (se_cmp op_inSD (se_var 1) (se_gstr (Z.str 24)))))))) sa_nil))))), (Z.glo 41), F.kp, (F.bindsN fun _ _ _ _ _ _ us hl => match us, hl with | [_], _ => rfl)⟩
def N_Space___init__ : List Str := ["self", "prime", "names", "name"]
def F_Space___init__ : Fn := ini "Space" 3 4
    (sq (ifS (orT (inC true ([2, 3, 5, 7].map D.int) (var 1)) (notT (chn leD leD (cst (.int 1)) (cal (f1 lenD) (aC (var 2) aN)) (cst (.int 8)))))
      stuck
      skip)
      (sq (ifS (orT (notT (tes (cal (f1 allL) (aC (lcE (iLst (var 2)) (.n 3) yes (cal F_is_name (aC (var 3) aN)) [3]) aN)))) (cmp ltD (op1 lenSet (var 2)) (cal (f1 lenD) (aC (var 2) aN))))
      stuck
      skip)
      (sq (ifS (cmp (flip ltD) (cal (f1 lenD) (aC (var 2) aN)) (op1 (tabI [(2, 8), (3, 5), (5, 3), (7, 2)]) (var 1)))
      stuck
      skip)
      (sq (setF 0 "Space" "prime" (var 1))
      (sq (setF 0 "Space" "names" (op1 listD (var 2)))
      (setF 0 "Space" "count" (cal (f1 lenD) (aC (var 2) aN))))))))
theorem sc_Space___init__ : FnScope N_Space___init__ ["self", "prime", "names"] (defScope (inClass (topS 18) 0)) := ⟨rfl, rfl, rfl, by decide +kernel, rfl, by decide +kernel, by decide +kernel⟩
theorem ok_Space___init__ (Z : ZF fa fn exl K mg) (B : LB K mg base ls) : MakeOk P w K mg base 2 "Space" F_Space___init__ := by
  obtain ⟨fd, F⟩ := Z.says.def_ 15 (d := d15)
  have sc := sc_Space___init__
  exact ⟨_, _, fd, _, ini_sound F sc fun cdv A outer s H hr =>
    (ss_cons (s_if (SWd.st (sw_or (st_ninC (Z.exf 1) (Z.glo 17) (se_var 1)) (sw_or1 (st_not (st_chn op_leD op_leD se_int (se_bltI imm_lenD cr_lenD (Z.free 12) boot_len (sa_cons (se_var 2) sa_nil)) (se_gint (Z.int 18)))))))
      (ss_one s_stuck)
      ss_nil)
      (ss_cons (s_if (SWd.st (sw_or (st_not (st_tes (se_bltI imm_allL (cr_allL rfl) (Z.free 13) boot_all (sa_cons (SN.se (sn_lc rfl sc.nd (si_list (se_var 2)) (blkOk_by (own := [("name", 3)]) (N := N_Space___init__) (sc := defScope (inClass (topS 18) 0)) (by decide +kernel)) (fun _ _ _ _ _ => (g_n 3 sc.nd)) (fun _ _ _ _ _ => (se_cal (ok_is_name Z B) (hr.mono (by decide)) (sa_cons (se_var 3) sa_nil))))) sa_nil)))) (sw_or1 (st_cmp op_ltD (se_lenSet rfl (Z.free 12) (Z.free 19) (se_var 2)) (se_bltI imm_lenD cr_lenD (Z.free 12) boot_len (sa_cons (se_var 2) sa_nil))))))
      (ss_one s_stuck)
      ss_nil)
      (ss_cons (s_if (st_cmp op_gtD (se_bltI imm_lenD cr_lenD (Z.free 12) boot_len (sa_cons (se_var 2) sa_nil)) (se_tabI (Z.exf 2) (Z.glo 20) (se_var 1)))
      (ss_one s_stuck)
      ss_nil)
      (ss_cons (s_setF (Z.at 7 8 9) (se_var 1))
      (ss_cons (s_setF (Z.at 7 8 10) (SN.se (sn_list (Z.free 2) (se_var 2))))
      (ss_one (s_setF (Z.at 7 8 21) (se_bltI imm_lenD cr_lenD (Z.free 12) boot_len (sa_cons (se_var 2) sa_nil))))))))), (Z.glo 7), (He.mkr_ok (Z.says.fact 42)), (F.bindsN fun _ _ _ _ _ _ us hl => match us, hl with | [_, _, _], _ => rfl)⟩
def N_System___init__ : List Str := ["self", "space", "equations"]
def F_System___init__ : Fn := ini "System" 3 3
    (sq (setF 0 "System" "space" (var 1))
      (setF 0 "System" "equations" (op1 listD (var 2))))
theorem sc_System___init__ : FnScope N_System___init__ ["self", "space", "equations"] (defScope (inClass (topS 26) 0)) := ⟨rfl, rfl, rfl, by decide +kernel, rfl, by decide +kernel, by decide +kernel⟩
theorem ok_System___init__ (Z : ZF fa fn exl K mg) (B : LB K mg base ls) : MakeOk P w K mg base 1 "System" F_System___init__ := by
  obtain ⟨fd, F⟩ := Z.says.def_ 16 (d := d16)
  have sc := sc_System___init__
  exact ⟨_, _, fd, _, ini_sound F sc fun cdv A outer s H hr =>
    (ss_cons (s_setF (Z.at 4 5 6) (se_var 1))
      (ss_one (s_setF (Z.at 4 5 11) (SN.se (sn_list (Z.free 2) (se_var 2)))))), (Z.glo 4), (He.mkr_ok (Z.says.fact 43)), (F.bindsN fun _ _ _ _ _ _ us hl => match us, hl with | [_, _, _], _ => rfl)⟩
def N__law_solutions : List Str := ["_law_prime", "_law_count", "_law_equations_here", "_law_found", "_law_point", "_law_one"]
def F__law_solutions : Fn := fnc 3 6
    (sq (newE 3 (lstE aN))
      (sq (forE (iLst (cal F__law_points (aC (var 0) (aC (var 1) aN)))) (.n 4)
      (ifS (tes (cal (f1 allL) (aC (lcE (iLst (var 2)) (.n 5) yes (boo (cmp eqD (cal F__law_value (aC (var 0) (aC (var 5) (aC (var 4) aN)))) (cst (.int 0)))) [5]) aN)))
      (app 3 (var 4))
      skip))
      (rt (ovar 3))))
theorem sc__law_solutions : FnScope N__law_solutions ["_law_prime", "_law_count", "_law_equations_here"] (defScope (topS 54)) := ⟨rfl, rfl, rfl, by decide +kernel, rfl, by decide +kernel, by decide +kernel⟩
theorem ok__law_solutions (Z : ZF fa fn exl K mg) (B : LB K mg base ls) : CallOk P w K mg base 3 "_law_solutions" F__law_solutions := by
  obtain ⟨fd, F⟩ := Z.says.def_ 17 (d := d17)
  have sc := sc__law_solutions
  exact ⟨_, fd, _, fn_sound F sc fun cdv A outer s H hr =>
    (ss_cons (s_new sc.nd (sn_lst sa_nil))
      (ss_cons (s_for PassesOwn.never rfl (si_list (se_cal (ok__law_points Z B) (hr.mono (by decide)) (sa_cons (se_var 0) (sa_cons (se_var 1) sa_nil)))) (g_n 4 sc.nd)
      (ss_one (s_if (st_tes (se_bltI imm_allL (cr_allL rfl) (Z.free 13) boot_all (sa_cons (SN.se (sn_lc rfl sc.nd (si_list (se_var 2)) (blkOk_by (own := [("_law_one", 5)]) (N := N__law_solutions) (sc := defScope (topS 54)) (by decide +kernel)) (fun _ _ _ _ _ => (g_n 5 sc.nd)) (fun _ _ _ _ _ => (se_cmp (op_eqDD hr.units) (se_cal (ok__law_value Z B) (hr.mono (by decide)) (sa_cons (se_var 0) (sa_cons (se_var 5) (sa_cons (se_var 4) sa_nil)))) se_int)))) sa_nil)))
      (ss_one (s_app (se_var 4)))
      ss_nil)))
      (ss_one (s_ret (se_ovar 3))))), (Z.glo 44), F.kp, (F.bindsN fun _ _ _ _ _ _ us hl => match us, hl with | [_, _, _], _ => rfl)⟩
def N_tuples_of : List Str := ["prime", "count", "found", "_", "row", "number"]
def F_tuples_of : Fn := fnc 2 6
    (sq (setE 2 (lstE (aC (tupE aN) aN)))
      (sq (forE (iRng (one1 (aC (var 1) aN))) (.n 3)
      (setE 2 (lc2E (iLst (var 2)) (.n 4) (iRng (one1 (aC (var 0) aN))) (.n 5) (op2 addD (var 4) (tupE (aC (var 5) aN))) [4, 5] [5])))
      (rt (var 2))))
theorem sc_tuples_of : FnScope N_tuples_of ["prime", "count"] (defScope (topS 12)) := ⟨rfl, rfl, rfl, by decide +kernel, rfl, by decide +kernel, by decide +kernel⟩
theorem ok_tuples_of (Z : ZF fa fn exl K mg) (B : LB K mg base ls) : CallOk P w K mg base 1 "tuples_of" F_tuples_of := by
  obtain ⟨fd, F⟩ := Z.says.def_ 18 (d := d18)
  have sc := sc_tuples_of
  exact ⟨_, fd, _, fn_sound F sc fun cdv A outer s H hr =>
    (ss_cons (s_set sc.nd (SN.se (sn_lst (sa_cons (se_tup sa_nil) sa_nil))))
      (ss_cons (s_for PassesOwn.never rfl (si_rng1 (Z.free 1) (sa_cons (se_var 1) sa_nil)) (g_n 3 sc.nd)
      (ss_one (s_setLc2 rfl sc.nd (sw_true rfl rfl rfl (by decide +kernel)) (si_list (se_var 2)) (blkOk_by (own := [("row", 4), ("number", 5)]) (N := N_tuples_of) (sc := defScope (topS 12)) (by decide +kernel)) (fun _ _ _ _ _ => (g_n 4 sc.nd)) (fun _ _ _ _ _ => (si_rng1 (Z.free 1) (sa_cons (se_var 0) sa_nil))) (fun _ _ _ _ _ => (g_n 5 sc.nd)) (fun _ _ _ _ _ => (se_op2 op_addD (se_var 4) (se_tup (sa_cons (se_var 5) sa_nil)))))))
      (ss_one (s_ret (se_var 2))))), (Z.glo 45), F.kp, (F.bindsN fun _ _ _ _ _ _ us hl => match us, hl with | [_, _], _ => rfl)⟩
def N_Space_points : List Str := ["self"]
def F_Space_points : Fn := fnc 1 1
    (rt (cal F_tuples_of (aC (fld ["Space"] "prime" (var 0)) (aC (fld ["Space"] "count" (var 0)) aN))))
theorem sc_Space_points : FnScope N_Space_points ["self"] (defScope (inClass (topS 18) 1)) := ⟨rfl, rfl, rfl, by decide +kernel, rfl, by decide +kernel, by decide +kernel⟩
theorem ok_Space_points (Z : ZF fa fn exl K mg) (B : LB K mg base ls) : MethOk P w K mg base 2 "Space" "points" F_Space_points := by
  obtain ⟨fd, F⟩ := Z.says.def_ 19 (d := d19)
  have sc := sc_Space_points
  exact ⟨_, _, fd, _, fn_sound F sc fun cdv A outer s H hr =>
    (ss_one (s_ret (se_cal (ok_tuples_of Z B) (hr.mono (by decide)) (sa_cons (se_fld (at_cons (Z.at 7 8 9) at_nil) (se_var 0)) (sa_cons (se_fld (at_cons (Z.at 7 8 21) at_nil) (se_var 0)) sa_nil))))), (Z.glo 7), (He.cls_ok (Z.says.fact 8)), (He.meth_ok (Z.says.fact 46)), (F.bindsN fun _ _ _ _ _ _ us hl => match us, hl with | [_], _ => rfl)⟩
def N_raised_number : List Str := ["prime", "number", "exponent", "found", "_"]
def F_raised_number : Fn := fnc 3 5
    (sq (setE 3 (cst (.int 1)))
      (sq (forE (iRng (one1 (aC (var 2) aN))) (.n 4)
      (setE 3 (op2 modD (op2 mulD (var 3) (var 1)) (var 0))))
      (rt (var 3))))
theorem sc_raised_number : FnScope N_raised_number ["prime", "number", "exponent"] (defScope (topS 11)) := ⟨rfl, rfl, rfl, by decide +kernel, rfl, by decide +kernel, by decide +kernel⟩
theorem ok_raised_number (Z : ZF fa fn exl K mg) (B : LB K mg base ls) : CallOk P w K mg base 1 "raised_number" F_raised_number := by
  obtain ⟨fd, F⟩ := Z.says.def_ 20 (d := d20)
  have sc := sc_raised_number
  exact ⟨_, fd, _, fn_sound F sc fun cdv A outer s H hr =>
    (ss_cons (s_set sc.nd se_int)
      (ss_cons (s_for PassesOwn.never rfl (si_rng1 (Z.free 1) (sa_cons (se_var 2) sa_nil)) (g_n 4 sc.nd)
      (ss_one (s_set sc.nd (se_op2 op_modD (se_op2 op_mulD (se_var 3) (se_var 1)) (se_var 0)))))
      (ss_one (s_ret (se_var 3))))), (Z.glo 47), F.kp, (F.bindsN fun _ _ _ _ _ _ us hl => match us, hl with | [_, _, _], _ => rfl)⟩
def N_value_of : List Str := ["space", "power", "point", "found", "exponent", "number"]
def F_value_of : Fn := fnc 3 6
    (sq (setE 3 (cst (.int 1)))
      (sq (forE (iZp (aC (var 1) (aC (var 2) aN))) (.t [(.n 4), (.n 5)])
      (setE 3 (op2 modD (op2 mulD (var 3) (cal F_raised_number (aC (fld ["Space"] "prime" (var 0)) (aC (var 5) (aC (var 4) aN))))) (fld ["Space"] "prime" (var 0)))))
      (rt (var 3))))
theorem sc_value_of : FnScope N_value_of ["space", "power", "point"] (defScope (topS 17)) := ⟨rfl, rfl, rfl, by decide +kernel, rfl, by decide +kernel, by decide +kernel⟩
theorem ok_value_of (Z : ZF fa fn exl K mg) (B : LB K mg base ls) : CallOk P w K mg base 2 "value_of" F_value_of := by
  obtain ⟨fd, F⟩ := Z.says.def_ 21 (d := d21)
  have sc := sc_value_of
  exact ⟨_, fd, _, fn_sound F sc fun cdv A outer s H hr =>
    (ss_cons (s_set sc.nd se_int)
      (ss_cons (s_for PassesOwn.never rfl (si_zip (Z.free 25) (sa_cons (se_var 1) (sa_cons (se_var 2) sa_nil))) (g_t rfl (gs_cons (g_n 4 sc.nd) (gs_cons (g_n 5 sc.nd) gs_nil)))
      (ss_one (s_set sc.nd (se_op2 op_modD (se_op2 op_mulD (se_var 3) (se_cal (ok_raised_number Z B) (hr.mono (by decide)) (sa_cons (se_fld (at_cons (Z.at 7 8 9) at_nil) (se_var 0)) (sa_cons (se_var 5) (sa_cons (se_var 4) sa_nil))))) (se_fld (at_cons (Z.at 7 8 9) at_nil) (se_var 0))))))
      (ss_one (s_ret (se_var 3))))), (Z.glo 48), F.kp, (F.bindsN fun _ _ _ _ _ _ us hl => match us, hl with | [_, _, _], _ => rfl)⟩
def N_value : List Str := ["space", "one", "point", "power", "number"]
def F_value : Fn := fnc 3 5
    (rt (op2 modD (cal (f1 sumL) (aC (lcE (iTp (var 1)) (.t [(.n 3), (.n 4)]) yes (op2 mulD (var 4) (cal F_value_of (aC (var 0) (aC (var 3) (aC (var 2) aN))))) [3, 4]) aN)) (fld ["Space"] "prime" (var 0))))
theorem sc_value : FnScope N_value ["space", "one", "point"] (defScope (topS 21)) := ⟨rfl, rfl, rfl, by decide +kernel, rfl, by decide +kernel, by decide +kernel⟩
theorem ok_value (Z : ZF fa fn exl K mg) (B : LB K mg base ls) : CallOk P w K mg base 3 "value" F_value := by
  obtain ⟨fd, F⟩ := Z.says.def_ 22 (d := d22)
  have sc := sc_value
  exact ⟨_, fd, _, fn_sound F sc fun cdv A outer s H hr =>
    (ss_one (s_ret (se_op2 op_modD (se_bltI imm_sumL (cr_sumL rfl) (Z.free 14) boot_sum (sa_cons (SN.se (sn_lc rfl sc.nd (si_tup (se_var 1)) (blkOk_by (own := [("power", 3), ("number", 4)]) (N := N_value) (sc := defScope (topS 21)) (by decide +kernel)) (fun _ _ _ _ _ => (g_t rfl (gs_cons (g_n 3 sc.nd) (gs_cons (g_n 4 sc.nd) gs_nil)))) (fun _ _ _ _ _ => (se_op2 op_mulD (se_var 4) (se_cal (ok_value_of Z B) (hr.mono (by decide)) (sa_cons (se_var 0) (sa_cons (se_var 3) (sa_cons (se_var 2) sa_nil)))))))) sa_nil)) (se_fld (at_cons (Z.at 7 8 9) at_nil) (se_var 0))))), (Z.glo 49), F.kp, (F.bindsN fun _ _ _ _ _ _ us hl => match us, hl with | [_, _, _], _ => rfl)⟩
def N_System_is_solution : List Str := ["self", "point", "one"]
def F_System_is_solution : Fn := fnc 2 3
    (rt (cal (f1 allL) (aC (lcE (iLst (fld ["System"] "equations" (var 0))) (.n 2) yes (boo (cmp eqD (cal F_value (aC (fld ["System"] "space" (var 0)) (aC (var 2) (aC (var 1) aN)))) (cst (.int 0)))) [2]) aN)))
theorem sc_System_is_solution : FnScope N_System_is_solution ["self", "point"] (defScope (inClass (topS 26) 1)) := ⟨rfl, rfl, rfl, by decide +kernel, rfl, by decide +kernel, by decide +kernel⟩
theorem ok_System_is_solution (Z : ZF fa fn exl K mg) (B : LB K mg base ls) : MethOk P w K mg base 4 "System" "is_solution" F_System_is_solution := by
  obtain ⟨fd, F⟩ := Z.says.def_ 23 (d := d23)
  have sc := sc_System_is_solution
  exact ⟨_, _, fd, _, fn_sound F sc fun cdv A outer s H hr =>
    (ss_one (s_ret (se_bltI imm_allL (cr_allL rfl) (Z.free 13) boot_all (sa_cons (SN.se (sn_lc rfl sc.nd (si_list (se_fld (at_cons (Z.at 4 5 11) at_nil) (se_var 0))) (blkOk_by (own := [("one", 2)]) (N := N_System_is_solution) (sc := defScope (inClass (topS 26) 1)) (by decide +kernel)) (fun _ _ _ _ _ => (g_n 2 sc.nd)) (fun _ _ _ _ _ => (se_cmp (op_eqDD hr.units) (se_cal (ok_value Z B) (hr.mono (by decide)) (sa_cons (se_fld (at_cons (Z.at 4 5 6) at_nil) (se_var 0)) (sa_cons (se_var 2) (sa_cons (se_var 1) sa_nil)))) se_int)))) sa_nil)))), (Z.glo 4), (He.cls_ok (Z.says.fact 5)), (He.meth_ok (Z.says.fact 50)), (F.bindsN fun _ _ _ _ _ _ us hl => match us, hl with | [_, _], _ => rfl)⟩
def N_flags_of : List Str := ["system", "point"]
def F_flags_of : Fn := fnc 1 2
    (rt (lcE (iLst (met [("Space", F_Space_points)] "points" (fld ["System"] "space" (var 0)) aN)) (.n 1) yes (met [("System", F_System_is_solution)] "is_solution" (var 0) (aC (var 1) aN)) [1]))
theorem sc_flags_of : FnScope N_flags_of ["system"] (defScope (topS 29)) := ⟨rfl, rfl, rfl, by decide +kernel, rfl, by decide +kernel, by decide +kernel⟩
theorem ok_flags_of (Z : ZF fa fn exl K mg) (B : LB K mg base ls) : CallOk P w K mg base 5 "flags_of" F_flags_of := by
  obtain ⟨fd, F⟩ := Z.says.def_ 24 (d := d24)
  have sc := sc_flags_of
  exact ⟨_, fd, _, fn_sound F sc fun cdv A outer s H hr =>
    (ss_one (s_ret (SN.se (sn_lc rfl sc.nd (si_list (se_met0 (ok_Space_points Z B) (hr.mono (by decide)) (se_fld (at_cons (Z.at 4 5 6) at_nil) (se_var 0)))) (blkOk_by (own := [("point", 1)]) (N := N_flags_of) (sc := defScope (topS 29)) (by decide +kernel)) (fun _ _ _ _ _ => (g_n 1 sc.nd)) (fun _ _ _ _ _ => (se_met (ok_System_is_solution Z B) (hr.mono (by decide)) (se_var 0) (sa_cons (se_var 1) sa_nil))))))), (Z.glo 51), F.kp, (F.bindsN fun _ _ _ _ _ _ us hl => match us, hl with | [_], _ => rfl)⟩
def N_numbers_of : List Str := ["prime", "values", "found", "exponent", "total", "number"]
def F_numbers_of : Fn := fnc 2 6
    (sq (newE 2 (lstE (aC (op2 getD (var 1) (cst (.int 0))) aN)))
      (sq (forE (iRng (two2 (aC (cst (.int 1)) (aC (var 0) aN)))) (.n 3)
      (sq (setE 4 (cst (.int 0)))
      (sq (forE (iRng (one1 (aC (var 0) aN))) (.n 5)
      (setE 4 (op2 addI (var 4) (op2 mulD (op2 getD (var 1) (var 5)) (cal F_raised_number (aC (var 0) (aC (var 5) (aC (op2 subD (op2 subD (var 0) (cst (.int 1))) (var 3)) aN))))))))
      (app 2 (op2 modD (op1 negD (var 4)) (var 0))))))
      (rt (ovar 2))))
theorem sc_numbers_of : FnScope N_numbers_of ["prime", "values"] (defScope (topS 23)) := ⟨rfl, rfl, rfl, by decide +kernel, rfl, by decide +kernel, by decide +kernel⟩
theorem ok_numbers_of (Z : ZF fa fn exl K mg) (B : LB K mg base ls) : CallOk P w K mg base 2 "numbers_of" F_numbers_of := by
  obtain ⟨fd, F⟩ := Z.says.def_ 25 (d := d25)
  have sc := sc_numbers_of
  exact ⟨_, fd, _, fn_sound F sc fun cdv A outer s H hr =>
    (ss_cons (s_new sc.nd (sn_lst (sa_cons (se_get (se_var 1) se_int) sa_nil)))
      (ss_cons (s_for PassesOwn.never rfl (si_rng2 (Z.free 1) (sa_cons se_int (sa_cons (se_var 0) sa_nil))) (g_n 3 sc.nd)
      (ss_cons (s_set sc.nd se_int)
      (ss_cons (s_for PassesOwn.never rfl (si_rng1 (Z.free 1) (sa_cons (se_var 0) sa_nil)) (g_n 5 sc.nd)
      (ss_one (s_augAdd sc.nd (se_op2 op_mulD (se_get (se_var 1) (se_var 5)) (se_cal (ok_raised_number Z B) (hr.mono (by decide)) (sa_cons (se_var 0) (sa_cons (se_var 5) (sa_cons (se_op2 op_subD (se_op2 op_subD (se_var 0) se_int) (se_var 3)) sa_nil))))))))
      (ss_one (s_app (se_op2 op_modD (se_neg (se_var 4)) (se_var 0)))))))
      (ss_one (s_ret (se_ovar 2))))), (Z.glo 52), F.kp, (F.bindsN fun _ _ _ _ _ _ us hl => match us, hl with | [_, _], _ => rfl)⟩
def N_from_numbers : List Str := ["space", "numbers", "rest", "power", "number"]
def F_from_numbers : Fn := fnc 2 5
    (sq (setE 2 (dcE true (iItm (var 1)) (.t [(.n 3), (.n 4)]) (var 3) (op2 modD (var 4) (fld ["Space"] "prime" (var 0))) [3, 4]))
      (rt (op1 ftupD (lcE (iLst (op1 sortKR (var 2))) (.n 3) (cmp (neg eqD) (op2 getK (var 2) (var 3)) (cst (.int 0))) (tupE (aC (var 3) (aC (op2 getK (var 2) (var 3)) aN))) [3]))))
theorem sc_from_numbers : FnScope N_from_numbers ["space", "numbers"] (defScope (topS 20)) := ⟨rfl, rfl, rfl, by decide +kernel, rfl, by decide +kernel, by decide +kernel⟩
theorem ok_from_numbers (Z : ZF fa fn exl K mg) (B : LB K mg base ls) : CallOk P w K mg base 1 "from_numbers" F_from_numbers := by
  obtain ⟨fd, F⟩ := Z.says.def_ 26 (d := d26)
  have sc := sc_from_numbers
  exact ⟨_, fd, _, fn_sound F sc fun cdv A outer s H hr =>
    (ss_cons (s_set sc.nd (SN.se (sn_dcItems (i := 1) (hu_of hr) rfl sc.nd (blkOk_by (own := [("power", 3), ("number", 4)]) (N := N_from_numbers) (sc := defScope (topS 20)) (by decide +kernel)) (fun _ _ _ _ _ => (g_t rfl (gs_cons (g_n 3 sc.nd) (gs_cons (g_n 4 sc.nd) gs_nil)))) (fun _ _ _ _ _ => (se_var 3)) (fun _ _ _ _ _ => (se_op2 op_modD (se_var 4) (se_fld (at_cons (Z.at 7 8 9) at_nil) (se_var 0)))))))
      (ss_one (s_ret (se_ftuple (Z.free 15) (SN.se (sn_lcI rfl sc.nd (si_list (SN.se (sn_sortKR rfl hr.units (Z.free 16) (se_var 2)))) (blkOk_by (own := [("power", 3)]) (N := N_from_numbers) (sc := defScope (topS 20)) (by decide +kernel)) (fun _ _ _ _ _ => (g_n 3 sc.nd)) (fun _ _ _ _ _ => (st_cmp (op_neDD hr.units) (se_getK (hu_of hr) (se_var 2) (se_var 3)) se_int)) (fun _ _ _ _ _ => (se_tup (sa_cons (se_var 3) (sa_cons (se_getK (hu_of hr) (se_var 2) (se_var 3)) sa_nil)))))))))), (Z.glo 53), F.kp, (F.bindsN fun _ _ _ _ _ _ us hl => match us, hl with | [_, _], _ => rfl)⟩
def N_polynomial_of : List Str := ["space", "table", "work", "index", "fresh", "point", "rows", "row", "number", "k"]
def F_polynomial_of : Fn := fnc 2 10
    (sq (setE 2 (cal zipDc (aC (met [("Space", F_Space_points)] "points" (var 0) aN) (aC (var 1) aN))))
      (sq (forE (iRng (one1 (aC (fld ["Space"] "count" (var 0)) aN))) (.n 3)
      (sq (newE 4 (cst (.dic true [] [])))
      (sq (forE (iLst (met [("Space", F_Space_points)] "points" (var 0) aN)) (.n 5)
      (ifS (cmp eqD (op2 getD (var 5) (var 3)) (cst (.int 0)))
      (sq (setE 6 (lcE (iRng (one1 (aC (fld ["Space"] "prime" (var 0)) aN))) (.n 9) yes (op2 addD (op2 addD (slE slcT (var 5) prN (prt (var 3))) (tupE (aC (var 9) aN))) (slE slcT (var 5) (prt (op2 addD (var 3) (cst (.int 1)))) prN)) [9]))
      (forE (iZp (aC (var 6) (aC (cal F_numbers_of (aC (fld ["Space"] "prime" (var 0)) (aC (lcE (iLst (var 6)) (.n 7) yes (op2 getK (var 2) (var 7)) [7]) aN))) aN))) (.t [(.n 7), (.n 8)])
      (stK 4 (var 7) (var 8))))
      skip))
      (mov 2 4))))
      (rt (cal F_from_numbers (aC (var 0) (aC (var 2) aN))))))
theorem sc_polynomial_of : FnScope N_polynomial_of ["space", "table"] (defScope (topS 24)) := ⟨rfl, rfl, rfl, by decide +kernel, rfl, by decide +kernel, by decide +kernel⟩
theorem ok_polynomial_of (Z : ZF fa fn exl K mg) (B : LB K mg base ls) : CallOk P w K mg base 3 "polynomial_of" F_polynomial_of := by
  obtain ⟨fd, F⟩ := Z.says.def_ 27 (d := d27)
  have sc := sc_polynomial_of
  exact ⟨_, fd, _, fn_sound F sc fun cdv A outer s H hr =>
    (ss_cons (s_set sc.nd (SN.se (sn_dictZip rfl hr.units (Z.free 26) (Z.free 25) (sa_cons (se_met0 (ok_Space_points Z B) (hr.mono (by decide)) (se_var 0)) (sa_cons (se_var 1) sa_nil)))))
      (ss_cons (s_for PassesOwn.never rfl (si_rng1 (Z.free 1) (sa_cons (se_fld (at_cons (Z.at 7 8 21) at_nil) (se_var 0)) sa_nil)) (g_n 3 sc.nd)
      (ss_cons (s_new sc.nd sn_dnewT)
      (ss_cons (s_for PassesOwn.never rfl (si_list (se_met0 (ok_Space_points Z B) (hr.mono (by decide)) (se_var 0))) (g_n 5 sc.nd)
      (ss_one (s_if (st_cmp (op_eqDD hr.units) (se_get (se_var 5) (se_var 3)) se_int)
      (ss_cons (s_setLc rfl sc.nd (sw_true rfl rfl rfl (by decide +kernel)) (si_rng1 (Z.free 1) (sa_cons (se_fld (at_cons (Z.at 7 8 9) at_nil) (se_var 0)) sa_nil)) (blkOk_by (own := [("k", 9)]) (N := N_polynomial_of) (sc := defScope (topS 24)) (by decide +kernel)) (fun _ _ _ _ _ => (g_n 9 sc.nd)) (fun _ _ _ _ _ => (se_op2 op_addD (se_op2 op_addD (se_slT (se_var 5) so_none (so_some (se_var 3))) (se_tup (sa_cons (se_var 9) sa_nil))) (se_slT (se_var 5) (so_some (se_op2 op_addD (se_var 3) se_int)) so_none))))
      (ss_one (s_for PassesOwn.never rfl (si_zip (Z.free 25) (sa_cons (se_var 6) (sa_cons (se_cal (ok_numbers_of Z B) (hr.mono (by decide)) (sa_cons (se_fld (at_cons (Z.at 7 8 9) at_nil) (se_var 0)) (sa_cons (SN.se (sn_lc rfl sc.nd (si_list (se_var 6)) (blkOk_by (own := [("row", 7)]) (N := N_polynomial_of) (sc := defScope (topS 24)) (by decide +kernel)) (fun _ _ _ _ _ => (g_n 7 sc.nd)) (fun _ _ _ _ _ => (se_getK (hu_of hr) (se_var 2) (se_var 7))))) sa_nil))) sa_nil))) (g_t rfl (gs_cons (g_n 7 sc.nd) (gs_cons (g_n 8 sc.nd) gs_nil)))
      (ss_one (s_stK (hu_of hr) (se_var 7) (se_var 8))))))
      ss_nil)))
      (ss_one (s_mov sc.nd)))))
      (ss_one (s_ret (se_cal (ok_from_numbers Z B) (hr.mono (by decide)) (sa_cons (se_var 0) (sa_cons (se_var 2) sa_nil))))))), (Z.glo 54), F.kp, (F.bindsN fun _ _ _ _ _ _ us hl => match us, hl with | [_, _], _ => rfl)⟩
def N_of_flags : List Str := ["space", "flags", "flag"]
def F_of_flags : Fn := fnc 2 3
    (rt (cal F_polynomial_of (aC (var 0) (aC (lcE (iLst (var 1)) (.n 2) yes (cal (f1 intD) (aC (notV (var 2)) aN)) [2]) aN))))
theorem sc_of_flags : FnScope N_of_flags ["space", "flags"] (defScope (topS 28)) := ⟨rfl, rfl, rfl, by decide +kernel, rfl, by decide +kernel, by decide +kernel⟩
theorem ok_of_flags (Z : ZF fa fn exl K mg) (B : LB K mg base ls) : CallOk P w K mg base 4 "of_flags" F_of_flags := by
  obtain ⟨fd, F⟩ := Z.says.def_ 28 (d := d28)
  have sc := sc_of_flags
  exact ⟨_, fd, _, fn_sound F sc fun cdv A outer s H hr =>
    (ss_one (s_ret (se_cal (ok_polynomial_of Z B) (hr.mono (by decide)) (sa_cons (se_var 0) (sa_cons (SN.se (sn_lc rfl sc.nd (si_list (se_var 1)) (blkOk_by (own := [("flag", 2)]) (N := N_of_flags) (sc := defScope (topS 28)) (by decide +kernel)) (fun _ _ _ _ _ => (g_n 2 sc.nd)) (fun _ _ _ _ _ => (se_btyI imm_intD cr_intD (Z.free 0) PyProof.Rows.boot_int (sa_cons (se_not (se_var 2)) sa_nil))))) sa_nil))))), (Z.glo 55), F.kp, (F.bindsN fun _ _ _ _ _ _ us hl => match us, hl with | [_, _], _ => rfl)⟩
def N_mark : List Str := ["system"]
def F_mark : Fn := fnc 1 1
    (rt (cal F_of_flags (aC (fld ["System"] "space" (var 0)) (aC (cal F_flags_of (aC (var 0) aN)) aN))))
theorem sc_mark : FnScope N_mark ["system"] (defScope (topS 30)) := ⟨rfl, rfl, rfl, by decide +kernel, rfl, by decide +kernel, by decide +kernel⟩
theorem ok_mark (Z : ZF fa fn exl K mg) (B : LB K mg base ls) : CallOk P w K mg base 6 "mark" F_mark := by
  obtain ⟨fd, F⟩ := Z.says.def_ 29 (d := d29)
  have sc := sc_mark
  exact ⟨_, fd, _, fn_sound F sc fun cdv A outer s H hr =>
    (ss_one (s_ret (se_cal (ok_of_flags Z B) (hr.mono (by decide)) (sa_cons (se_fld (at_cons (Z.at 4 5 6) at_nil) (se_var 0)) (sa_cons (se_cal (ok_flags_of Z B) (hr.mono (by decide)) (sa_cons (se_var 0) sa_nil)) sa_nil))))), (Z.glo 56), F.kp, (F.bindsN fun _ _ _ _ _ _ us hl => match us, hl with | [_], _ => rfl)⟩
def N__law_is_tuple_point : List Str := ["_law_prime", "_law_count", "_law_thing", "_law_number"]
def F__law_is_tuple_point : Fn := fnc 3 4
    (rt (andV (boo (cmp eqD (cal (f1 lenD) (aC (var 2) aN)) (var 1))) (cal (f1 allL) (aC (lcE (iTp (var 2)) (.n 3) yes (boo (chn leD ltD (cst (.int 0)) (var 3) (var 0))) [3]) aN))))
theorem sc__law_is_tuple_point : FnScope N__law_is_tuple_point ["_law_prime", "_law_count", "_law_thing"] (defScope (topS 51)) := ⟨rfl, rfl, rfl, by decide +kernel, rfl, by decide +kernel, by decide +kernel⟩
theorem ok__law_is_tuple_point (Z : ZF fa fn exl K mg) (B : LB K mg base ls) : CallOk P w K mg base 1 "_law_is_tuple_point" F__law_is_tuple_point := by
  obtain ⟨fd, F⟩ := Z.says.def_ 30 (d := d30)
  have sc := sc__law_is_tuple_point
  exact ⟨_, fd, _, fn_sound F sc fun cdv A outer s H hr =>
    (ss_one (s_ret (se_and (se_cmp (op_eqDD hr.units) (se_bltI imm_lenD cr_lenD (Z.free 12) boot_len (sa_cons (se_var 2) sa_nil)) (se_var 1)) (se_one (se_bltI imm_allL (cr_allL rfl) (Z.free 13) boot_all (sa_cons (SN.se (sn_lc rfl sc.nd (si_tup (se_var 2)) (blkOk_by (own := [("_law_number", 3)]) (N := N__law_is_tuple_point) (sc := defScope (topS 51)) (by decide +kernel)) (fun _ _ _ _ _ => (g_n 3 sc.nd)) (fun _ _ _ _ _ => (se_chn op_leD op_ltD se_int (se_var 3) (se_var 0))))) sa_nil)))))), (Z.glo 57), F.kp, (F.bindsN fun _ _ _ _ _ _ us hl => match us, hl with | [_, _, _], _ => rfl)⟩
def N__law_is_polynomial : List Str := ["_law_prime", "_law_count", "_law_thing", "_law_k", "_law_power", "_law_number"]
def F__law_is_polynomial : Fn := fnc 3 6
    (sq (forE (iRng (one1 (aC (cal (f1 lenD) (aC (var 2) aN)) aN))) (.n 3)
      (sq (asg (.t [(.n 4), (.n 5)]) (op2 getD (var 2) (var 3)))
      (sq (ifS (orT (notT (tes (cal F__law_is_tuple_point (aC (var 0) (aC (var 1) (aC (var 4) aN)))))) (notT (chn ltD ltD (cst (.int 0)) (var 5) (var 0))))
      (rt (cst (.bl false)))
      skip)
      (ifS (andT (cmp (flip ltD) (var 3) (cst (.int 0))) (notT (cmp ltT (var 4) (op2 getD (op2 getD (var 2) (op2 subD (var 3) (cst (.int 1)))) (cst (.int 0))))))
      (rt (cst (.bl false)))
      skip))))
      (rt (cst (.bl true))))
theorem sc__law_is_polynomial : FnScope N__law_is_polynomial ["_law_prime", "_law_count", "_law_thing"] (defScope (topS 52)) := ⟨rfl, rfl, rfl, by decide +kernel, rfl, by decide +kernel, by decide +kernel⟩
theorem ok__law_is_polynomial (Z : ZF fa fn exl K mg) (B : LB K mg base ls) : CallOk P w K mg base 2 "_law_is_polynomial" F__law_is_polynomial := by
  obtain ⟨fd, F⟩ := Z.says.def_ 31 (d := d31)
  have sc := sc__law_is_polynomial
  exact ⟨_, fd, _, fn_sound F sc fun cdv A outer s H hr =>
    (ss_cons (s_for PassesOwn.never rfl (si_rng1 (Z.free 1) (sa_cons (se_bltI imm_lenD cr_lenD (Z.free 12) boot_len (sa_cons (se_var 2) sa_nil)) sa_nil)) (g_n 3 sc.nd)
      (ss_cons (s_asg (se_get (se_var 2) (se_var 3)) (g_t rfl (gs_cons (g_n 4 sc.nd) (gs_cons (g_n 5 sc.nd) gs_nil))))
      (ss_cons (s_if (SWd.st (sw_or (st_not (st_tes (se_cal (ok__law_is_tuple_point Z B) (hr.mono (by decide)) (sa_cons (se_var 0) (sa_cons (se_var 1) (sa_cons (se_var 4) sa_nil)))))) (sw_or1 (st_not (st_chn op_ltD op_ltD se_int (se_var 5) (se_var 0))))))
      (ss_one (s_ret se_bl))
      ss_nil)
      (ss_one (s_if (SWd.st (sw_and (st_cmp op_gtD (se_var 3) se_int) (sw_and1 (st_not (st_cmp (op_ltTD hr.units) (se_var 4) (se_get (se_get (se_var 2) (se_op2 op_subD (se_var 3) se_int)) se_int))))))
      (ss_one (s_ret se_bl))
      ss_nil)))))
      (ss_one (s_ret se_bl))), (Z.glo 58), F.kp, (F.bindsN fun _ _ _ _ _ _ us hl => match us, hl with | [_, _, _], _ => rfl)⟩
def N__law_table : List Str := ["_law_prime", "_law_count", "_law_one", "_law_point"]
def F__law_table : Fn := fnc 3 4
    (rt (lcE (iLst (cal F__law_points (aC (var 0) (aC (var 1) aN)))) (.n 3) yes (cal F__law_value (aC (var 0) (aC (var 2) (aC (var 3) aN)))) [3]))
theorem sc__law_table : FnScope N__law_table ["_law_prime", "_law_count", "_law_one"] (defScope (topS 46)) := ⟨rfl, rfl, rfl, by decide +kernel, rfl, by decide +kernel, by decide +kernel⟩
theorem ok__law_table (Z : ZF fa fn exl K mg) (B : LB K mg base ls) : CallOk P w K mg base 3 "_law_table" F__law_table := by
  obtain ⟨fd, F⟩ := Z.says.def_ 32 (d := d32)
  have sc := sc__law_table
  exact ⟨_, fd, _, fn_sound F sc fun cdv A outer s H hr =>
    (ss_one (s_ret (SN.se (sn_lc rfl sc.nd (si_list (se_cal (ok__law_points Z B) (hr.mono (by decide)) (sa_cons (se_var 0) (sa_cons (se_var 1) sa_nil)))) (blkOk_by (own := [("_law_point", 3)]) (N := N__law_table) (sc := defScope (topS 46)) (by decide +kernel)) (fun _ _ _ _ _ => (g_n 3 sc.nd)) (fun _ _ _ _ _ => (se_cal (ok__law_value Z B) (hr.mono (by decide)) (sa_cons (se_var 0) (sa_cons (se_var 2) (sa_cons (se_var 3) sa_nil))))))))), (Z.glo 59), F.kp, (F.bindsN fun _ _ _ _ _ _ us hl => match us, hl with | [_, _, _], _ => rfl)⟩
def N_joined_both : List Str := ["one", "other", "way", "flags", "here", "there"]
def F_joined_both : Fn := joiF 6 (sq (setE 3 (lcE (iZp (aC (cal F_flags_of (aC (var 0) aN)) (aC (cal F_flags_of (aC (var 1) aN)) aN))) (.t [(.n 4), (.n 5)]) yes (wayE (andV (var 0) (var 1)) (var 4) (var 5)) [4, 5]))
    (rt (cal (isIns "System" F_System___init__) (aC (fld ["System"] "space" (var 0)) (aC (lstE (aC (cal F_of_flags (aC (fld ["System"] "space" (var 0)) (aC (var 3) aN))) aN)) aN)))))
theorem sc_joined_both : FnScope N_joined_both ["one", "other", "way"] (defScope (topS 31)) := ⟨rfl, rfl, rfl, by decide +kernel, rfl, by decide +kernel, by decide +kernel⟩
theorem scl_joined_both : FnScope ["here", "there"] ["here", "there"] ((retLam (topS 32)).get rfl).2.2 := ⟨rfl, rfl, rfl, by decide +kernel, rfl, by decide +kernel, by decide +kernel⟩
theorem okJ_joined_both (Z : ZF fa fn exl K mg) (B : LB K mg base ls) : CallJ P w K mg base 6 "joined" "both.<locals>.<lambda>" ((retLam (topS 32)).get rfl).1 ((retLam (topS 32)).get rfl).2.1 ((retLam (topS 32)).get rfl).2.2 F_joined_both := by
  obtain ⟨fd, F⟩ := Z.says.def_ 33 (d := d33)
  have sc := sc_joined_both
  have scl := scl_joined_both
  exact ⟨_, fd, ["one", "other", "way"], joi_sound F sc rfl rfl (by decide) (by decide) (fun cdv A outer s H hr => ps_lcJ rfl sc.nd (sw_true rfl rfl rfl (by decide +kernel)) (si_zip (Z.free 25) (sa_cons (se_cal (ok_flags_of Z B) (hr.mono (by decide)) (sa_cons (se_var 0) sa_nil)) (sa_cons (se_cal (ok_flags_of Z B) (hr.mono (by decide)) (sa_cons (se_var 1) sa_nil)) sa_nil))) (blkOk_by (own := [("here", 4), ("there", 5)]) (N := N_joined_both) (sc := defScope (topS 31)) (by decide +kernel)) (fun _ _ _ _ _ => (g_t rfl (gs_cons (g_n 4 sc.nd) (gs_cons (g_n 5 sc.nd) gs_nil)))) (fun _ _ _ _ _ => pe_way (i := 2) (k := 0) (ps := ["here", "there"]) scl (hr.mono (by decide)) (sa_cons (se_var 4) (sa_cons (se_var 5) sa_nil)) (fun _ _ _ us hl => match us, hl with | [_, _], _ => rfl) (fun _ _ _ _ _ _ _ => (se_and (se_var 0) (se_one (se_var 1)))))) (fun cdv A outer s H hr => (s_ret (se_mak (ok_System___init__ Z B) (hr.mono (by decide)) (sa_cons (se_fld (at_cons (Z.at 4 5 6) at_nil) (se_var 0)) (sa_cons (SN.se (sn_lst (sa_cons (se_cal (ok_of_flags Z B) (hr.mono (by decide)) (sa_cons (se_fld (at_cons (Z.at 4 5 6) at_nil) (se_var 0)) (sa_cons (se_var 3) sa_nil))) sa_nil))) sa_nil))))), (Z.glo 60), F.kp, (F.bindsN fun _ _ _ _ _ _ us hl => match us, hl with | [_, _, _], _ => rfl)⟩
def N_both : List Str := ["one", "other", "here", "there"]
def F_both : Fn := fnc 2 4
    (rt (cal F_joined_both (aC (var 0) (aC (var 1) aN))))
theorem sc_both : FnScope N_both ["one", "other"] (defScope (topS 32)) := ⟨rfl, rfl, rfl, by decide +kernel, rfl, by decide +kernel, by decide +kernel⟩
theorem ok_both (Z : ZF fa fn exl K mg) (B : LB K mg base ls) : CallOk P w K mg base 10 "both" F_both := by
  obtain ⟨fd, F⟩ := Z.says.def_ 34 (d := d34)
  have sc := sc_both
  exact ⟨_, fd, _, fnL_sound (ls := ls) (by decide +kernel) F sc fun cdv A outer s H hr hL =>
    (ss_one (s_ret (se_calW (okJ_joined_both Z B) (hr.mono (by decide)) (se_var 0) (se_var 1) hL rfl))), (Z.glo 61), F.kp, (F.bindsN fun _ _ _ _ _ _ us hl => match us, hl with | [_, _], _ => rfl)⟩
def N_joined_either : List Str := ["one", "other", "way", "flags", "here", "there"]
def F_joined_either : Fn := joiF 6 (sq (setE 3 (lcE (iZp (aC (cal F_flags_of (aC (var 0) aN)) (aC (cal F_flags_of (aC (var 1) aN)) aN))) (.t [(.n 4), (.n 5)]) yes (wayE (orV (var 0) (var 1)) (var 4) (var 5)) [4, 5]))
    (rt (cal (isIns "System" F_System___init__) (aC (fld ["System"] "space" (var 0)) (aC (lstE (aC (cal F_of_flags (aC (fld ["System"] "space" (var 0)) (aC (var 3) aN))) aN)) aN)))))
theorem sc_joined_either : FnScope N_joined_either ["one", "other", "way"] (defScope (topS 31)) := ⟨rfl, rfl, rfl, by decide +kernel, rfl, by decide +kernel, by decide +kernel⟩
theorem scl_joined_either : FnScope ["here", "there"] ["here", "there"] ((retLam (topS 33)).get rfl).2.2 := ⟨rfl, rfl, rfl, by decide +kernel, rfl, by decide +kernel, by decide +kernel⟩
theorem okJ_joined_either (Z : ZF fa fn exl K mg) (B : LB K mg base ls) : CallJ P w K mg base 6 "joined" "either.<locals>.<lambda>" ((retLam (topS 33)).get rfl).1 ((retLam (topS 33)).get rfl).2.1 ((retLam (topS 33)).get rfl).2.2 F_joined_either := by
  obtain ⟨fd, F⟩ := Z.says.def_ 35 (d := d35)
  have sc := sc_joined_either
  have scl := scl_joined_either
  exact ⟨_, fd, ["one", "other", "way"], joi_sound F sc rfl rfl (by decide) (by decide) (fun cdv A outer s H hr => ps_lcJ rfl sc.nd (sw_true rfl rfl rfl (by decide +kernel)) (si_zip (Z.free 25) (sa_cons (se_cal (ok_flags_of Z B) (hr.mono (by decide)) (sa_cons (se_var 0) sa_nil)) (sa_cons (se_cal (ok_flags_of Z B) (hr.mono (by decide)) (sa_cons (se_var 1) sa_nil)) sa_nil))) (blkOk_by (own := [("here", 4), ("there", 5)]) (N := N_joined_either) (sc := defScope (topS 31)) (by decide +kernel)) (fun _ _ _ _ _ => (g_t rfl (gs_cons (g_n 4 sc.nd) (gs_cons (g_n 5 sc.nd) gs_nil)))) (fun _ _ _ _ _ => pe_way (i := 2) (k := 0) (ps := ["here", "there"]) scl (hr.mono (by decide)) (sa_cons (se_var 4) (sa_cons (se_var 5) sa_nil)) (fun _ _ _ us hl => match us, hl with | [_, _], _ => rfl) (fun _ _ _ _ _ _ _ => (se_or (se_var 0) (se_one (se_var 1)))))) (fun cdv A outer s H hr => (s_ret (se_mak (ok_System___init__ Z B) (hr.mono (by decide)) (sa_cons (se_fld (at_cons (Z.at 4 5 6) at_nil) (se_var 0)) (sa_cons (SN.se (sn_lst (sa_cons (se_cal (ok_of_flags Z B) (hr.mono (by decide)) (sa_cons (se_fld (at_cons (Z.at 4 5 6) at_nil) (se_var 0)) (sa_cons (se_var 3) sa_nil))) sa_nil))) sa_nil))))), (Z.glo 60), F.kp, (F.bindsN fun _ _ _ _ _ _ us hl => match us, hl with | [_, _, _], _ => rfl)⟩
def N_either : List Str := ["one", "other", "here", "there"]
def F_either : Fn := fnc 2 4
    (rt (cal F_joined_either (aC (var 0) (aC (var 1) aN))))
theorem sc_either : FnScope N_either ["one", "other"] (defScope (topS 33)) := ⟨rfl, rfl, rfl, by decide +kernel, rfl, by decide +kernel, by decide +kernel⟩
theorem ok_either (Z : ZF fa fn exl K mg) (B : LB K mg base ls) : CallOk P w K mg base 10 "either" F_either := by
  obtain ⟨fd, F⟩ := Z.says.def_ 36 (d := d36)
  have sc := sc_either
  exact ⟨_, fd, _, fnL_sound (ls := ls) (by decide +kernel) F sc fun cdv A outer s H hr hL =>
    (ss_one (s_ret (se_calW (okJ_joined_either Z B) (hr.mono (by decide)) (se_var 0) (se_var 1) hL rfl))), (Z.glo 62), F.kp, (F.bindsN fun _ _ _ _ _ _ us hl => match us, hl with | [_, _], _ => rfl)⟩
def N_joined_without : List Str := ["one", "other", "way", "flags", "here", "there"]
def F_joined_without : Fn := joiF 6 (sq (setE 3 (lcE (iZp (aC (cal F_flags_of (aC (var 0) aN)) (aC (cal F_flags_of (aC (var 1) aN)) aN))) (.t [(.n 4), (.n 5)]) yes (wayE (andV (var 0) (notV (var 1))) (var 4) (var 5)) [4, 5]))
    (rt (cal (isIns "System" F_System___init__) (aC (fld ["System"] "space" (var 0)) (aC (lstE (aC (cal F_of_flags (aC (fld ["System"] "space" (var 0)) (aC (var 3) aN))) aN)) aN)))))
theorem sc_joined_without : FnScope N_joined_without ["one", "other", "way"] (defScope (topS 31)) := ⟨rfl, rfl, rfl, by decide +kernel, rfl, by decide +kernel, by decide +kernel⟩
theorem scl_joined_without : FnScope ["here", "there"] ["here", "there"] ((retLam (topS 34)).get rfl).2.2 := ⟨rfl, rfl, rfl, by decide +kernel, rfl, by decide +kernel, by decide +kernel⟩
theorem okJ_joined_without (Z : ZF fa fn exl K mg) (B : LB K mg base ls) : CallJ P w K mg base 6 "joined" "without.<locals>.<lambda>" ((retLam (topS 34)).get rfl).1 ((retLam (topS 34)).get rfl).2.1 ((retLam (topS 34)).get rfl).2.2 F_joined_without := by
  obtain ⟨fd, F⟩ := Z.says.def_ 37 (d := d37)
  have sc := sc_joined_without
  have scl := scl_joined_without
  exact ⟨_, fd, ["one", "other", "way"], joi_sound F sc rfl rfl (by decide) (by decide) (fun cdv A outer s H hr => ps_lcJ rfl sc.nd (sw_true rfl rfl rfl (by decide +kernel)) (si_zip (Z.free 25) (sa_cons (se_cal (ok_flags_of Z B) (hr.mono (by decide)) (sa_cons (se_var 0) sa_nil)) (sa_cons (se_cal (ok_flags_of Z B) (hr.mono (by decide)) (sa_cons (se_var 1) sa_nil)) sa_nil))) (blkOk_by (own := [("here", 4), ("there", 5)]) (N := N_joined_without) (sc := defScope (topS 31)) (by decide +kernel)) (fun _ _ _ _ _ => (g_t rfl (gs_cons (g_n 4 sc.nd) (gs_cons (g_n 5 sc.nd) gs_nil)))) (fun _ _ _ _ _ => pe_way (i := 2) (k := 0) (ps := ["here", "there"]) scl (hr.mono (by decide)) (sa_cons (se_var 4) (sa_cons (se_var 5) sa_nil)) (fun _ _ _ us hl => match us, hl with | [_, _], _ => rfl) (fun _ _ _ _ _ _ _ => (se_and (se_var 0) (se_one (se_not (se_var 1))))))) (fun cdv A outer s H hr => (s_ret (se_mak (ok_System___init__ Z B) (hr.mono (by decide)) (sa_cons (se_fld (at_cons (Z.at 4 5 6) at_nil) (se_var 0)) (sa_cons (SN.se (sn_lst (sa_cons (se_cal (ok_of_flags Z B) (hr.mono (by decide)) (sa_cons (se_fld (at_cons (Z.at 4 5 6) at_nil) (se_var 0)) (sa_cons (se_var 3) sa_nil))) sa_nil))) sa_nil))))), (Z.glo 60), F.kp, (F.bindsN fun _ _ _ _ _ _ us hl => match us, hl with | [_, _, _], _ => rfl)⟩
def N_without : List Str := ["one", "other", "here", "there"]
def F_without : Fn := fnc 2 4
    (rt (cal F_joined_without (aC (var 0) (aC (var 1) aN))))
theorem sc_without : FnScope N_without ["one", "other"] (defScope (topS 34)) := ⟨rfl, rfl, rfl, by decide +kernel, rfl, by decide +kernel, by decide +kernel⟩
theorem ok_without (Z : ZF fa fn exl K mg) (B : LB K mg base ls) : CallOk P w K mg base 10 "without" F_without := by
  obtain ⟨fd, F⟩ := Z.says.def_ 38 (d := d38)
  have sc := sc_without
  exact ⟨_, fd, _, fnL_sound (ls := ls) (by decide +kernel) F sc fun cdv A outer s H hr hL =>
    (ss_one (s_ret (se_calW (okJ_joined_without Z B) (hr.mono (by decide)) (se_var 0) (se_var 1) hL rfl))), (Z.glo 63), F.kp, (F.bindsN fun _ _ _ _ _ _ us hl => match us, hl with | [_, _], _ => rfl)⟩
def N_opposite : List Str := ["one", "flag"]
def F_opposite : Fn := fnc 1 2
    (rt (cal (isIns "System" F_System___init__) (aC (fld ["System"] "space" (var 0)) (aC (lstE (aC (cal F_of_flags (aC (fld ["System"] "space" (var 0)) (aC (lcE (iLst (cal F_flags_of (aC (var 0) aN))) (.n 1) yes (notV (var 1)) [1]) aN))) aN)) aN))))
theorem sc_opposite : FnScope N_opposite ["one"] (defScope (topS 35)) := ⟨rfl, rfl, rfl, by decide +kernel, rfl, by decide +kernel, by decide +kernel⟩
theorem ok_opposite (Z : ZF fa fn exl K mg) (B : LB K mg base ls) : CallOk P w K mg base 6 "opposite" F_opposite := by
  obtain ⟨fd, F⟩ := Z.says.def_ 39 (d := d39)
  have sc := sc_opposite
  exact ⟨_, fd, _, fn_sound F sc fun cdv A outer s H hr =>
    (ss_one (s_ret (se_mak (ok_System___init__ Z B) (hr.mono (by decide)) (sa_cons (se_fld (at_cons (Z.at 4 5 6) at_nil) (se_var 0)) (sa_cons (SN.se (sn_lst (sa_cons (se_cal (ok_of_flags Z B) (hr.mono (by decide)) (sa_cons (se_fld (at_cons (Z.at 4 5 6) at_nil) (se_var 0)) (sa_cons (SN.se (sn_lc rfl sc.nd (si_list (se_cal (ok_flags_of Z B) (hr.mono (by decide)) (sa_cons (se_var 0) sa_nil))) (blkOk_by (own := [("flag", 1)]) (N := N_opposite) (sc := defScope (topS 35)) (by decide +kernel)) (fun _ _ _ _ _ => (g_n 1 sc.nd)) (fun _ _ _ _ _ => (se_not (se_var 1))))) sa_nil))) sa_nil))) sa_nil))))), (Z.glo 64), F.kp, (F.bindsN fun _ _ _ _ _ _ us hl => match us, hl with | [_], _ => rfl)⟩
def N_System_solutions : List Str := ["self", "point"]
def F_System_solutions : Fn := fnc 1 2
    (rt (lcE (iLst (met [("Space", F_Space_points)] "points" (fld ["System"] "space" (var 0)) aN)) (.n 1) (tes (met [("System", F_System_is_solution)] "is_solution" (var 0) (aC (var 1) aN))) (var 1) [1]))
theorem sc_System_solutions : FnScope N_System_solutions ["self"] (defScope (inClass (topS 26) 2)) := ⟨rfl, rfl, rfl, by decide +kernel, rfl, by decide +kernel, by decide +kernel⟩
theorem ok_System_solutions (Z : ZF fa fn exl K mg) (B : LB K mg base ls) : MethOk P w K mg base 5 "System" "solutions" F_System_solutions := by
  obtain ⟨fd, F⟩ := Z.says.def_ 40 (d := d40)
  have sc := sc_System_solutions
  exact ⟨_, _, fd, _, fn_sound F sc fun cdv A outer s H hr =>
    (ss_one (s_ret (SN.se (sn_lcI rfl sc.nd (si_list (se_met0 (ok_Space_points Z B) (hr.mono (by decide)) (se_fld (at_cons (Z.at 4 5 6) at_nil) (se_var 0)))) (blkOk_by (own := [("point", 1)]) (N := N_System_solutions) (sc := defScope (inClass (topS 26) 2)) (by decide +kernel)) (fun _ _ _ _ _ => (g_n 1 sc.nd)) (fun _ _ _ _ _ => (st_tes (se_met (ok_System_is_solution Z B) (hr.mono (by decide)) (se_var 0) (sa_cons (se_var 1) sa_nil)))) (fun _ _ _ _ _ => (se_var 1)))))), (Z.glo 4), (He.cls_ok (Z.says.fact 5)), (He.meth_ok (Z.says.fact 65)), (F.bindsN fun _ _ _ _ _ _ us hl => match us, hl with | [_], _ => rfl)⟩
def N_law : List Str := ["_law_script", "_law_names_here", "_law_lists", "_law_one", "_law_other", "_law_first", "_law_second", "_law_points_here", "_law_pairs", "_law_prime", "_law_count", "_law_system", "_law_due", "_law_k", "_law_point", "_law_each"]
def F_law : Fn := fnc 1 16
    (sq (asg (.t [(.n 9), (.n 10)]) (cal F__law_shape (aC (op2 modD (cal (f1 intD) (aC (cal F__law_cell (aC (var 0) (aC (cst (.int 0)) aN))) aN)) (cst (.int 11))) aN)))
      (sq (setE 1 (cal F__law_names (aC (cal F__law_cell (aC (var 0) (aC (cst (.int 1)) aN))) (aC (var 10) aN))))
      (sq (setE 2 (lcE (iRng (one1 (aC (cst (.int 2)) aN))) (.n 13) yes (cal F__law_equations (aC (var 9) (aC (var 10) (aC (cal F__law_cell (aC (var 0) (aC (op2 addD (cst (.int 2)) (var 13)) aN))) aN)))) [13]))
      (sq (setE 3 (cal (isIns "System" F_System___init__) (aC (cal (isIns "Space" F_Space___init__) (aC (var 9) (aC (var 1) aN))) (aC (op1 listD (op2 getD (var 2) (cst (.int 0)))) aN))))
      (sq (setE 4 (cal (isIns "System" F_System___init__) (aC (cal (isIns "Space" F_Space___init__) (aC (var 9) (aC (var 1) aN))) (aC (op1 listD (op2 getD (var 2) (cst (.int 1)))) aN))))
      (sq (setE 5 (cal F__law_solutions (aC (var 9) (aC (var 10) (aC (op2 getD (var 2) (cst (.int 0))) aN)))))
      (sq (setE 6 (cal F__law_solutions (aC (var 9) (aC (var 10) (aC (op2 getD (var 2) (cst (.int 1))) aN)))))
      (sq (setE 7 (cal F__law_points (aC (var 9) (aC (var 10) aN))))
      (sq (ifS (notT (tes (cal F__law_is_polynomial (aC (var 9) (aC (var 10) (aC (cal F_mark (aC (var 3) aN)) aN))))))
      (rt (cst (.bl false)))
      skip)
      (sq (ifS (cmp (neg eqD) (cal F__law_table (aC (var 9) (aC (var 10) (aC (cal F_mark (aC (var 3) aN)) aN)))) (lcE (iLst (var 7)) (.n 14) yes (cal (f1 intD) (aC (boo (cmp (neg inL) (var 14) (var 5))) aN)) [14]))
      (rt (cst (.bl false)))
      skip)
      (sq (newE 8 (lstE (aC (tupE (aC (cal F_both (aC (var 3) (aC (var 4) aN))) (aC (lcE (iLst (var 5)) (.n 14) (cmp inL (var 14) (var 6)) (var 14) [14]) aN))) aN)))
      (sq (app 8 (tupE (aC (cal F_either (aC (var 3) (aC (var 4) aN))) (aC (lcE (iLst (var 7)) (.n 14) (orT (cmp inL (var 14) (var 5)) (cmp inL (var 14) (var 6))) (var 14) [14]) aN))))
      (sq (app 8 (tupE (aC (cal F_without (aC (var 3) (aC (var 4) aN))) (aC (lcE (iLst (var 5)) (.n 14) (cmp (neg inL) (var 14) (var 6)) (var 14) [14]) aN))))
      (sq (app 8 (tupE (aC (cal F_opposite (aC (var 3) aN)) (aC (lcE (iLst (var 7)) (.n 14) (cmp (neg inL) (var 14) (var 5)) (var 14) [14]) aN))))
      (frz 8 (sq (forE (iLst (var 8)) (.t [(.n 11), (.n 12)])
      (sq (ifS (orT (notT (tes (op1 (isC "System") (var 11)))) (orT (cmp (neg eqD) (fld ["Space"] "prime" (fld ["System"] "space" (var 11))) (var 9)) (cmp (neg eqD) (fld ["Space"] "names" (fld ["System"] "space" (var 11))) (var 1))))
      (rt (cst (.bl false)))
      skip)
      (sq (ifS (orT (cmp (flip ltD) (cal (f1 lenD) (aC (fld ["System"] "equations" (var 11)) aN)) (cst (.int 20))) (notT (tes (cal (f1 allL) (aC (lcE (iLst (fld ["System"] "equations" (var 11))) (.n 15) yes (cal F__law_is_polynomial (aC (var 9) (aC (var 10) (aC (var 15) aN)))) [15]) aN)))))
      (rt (cst (.bl false)))
      skip)
      (ifS (orT (cmp (neg eqD) (cal F__law_solutions (aC (var 9) (aC (var 10) (aC (fld ["System"] "equations" (var 11)) aN)))) (var 12)) (cmp (neg eqD) (met [("System", F_System_solutions)] "solutions" (var 11) aN) (var 12)))
      (rt (cst (.bl false)))
      skip))))
      (rt (andV (boo (cmp eqD (fld ["System"] "equations" (var 3)) (op2 getD (var 2) (cst (.int 0))))) (boo (cmp eqD (fld ["System"] "equations" (var 4)) (op2 getD (var 2) (cst (.int 1)))))))))))))))))))))))
theorem sc_law : FnScope N_law ["_law_script"] (defScope (topS 55)) := ⟨rfl, rfl, rfl, by decide +kernel, rfl, by decide +kernel, by decide +kernel⟩
theorem ok_law (Z : ZF fa fn exl K mg) : ∃ fd : FuncData, FunD K d41.name d41.qual d41.params d41.body d41.scope [] [] (He.fAd K d41.at_) fd ∧ ∀ base : Heap, LB K mg base ls → FnOk P w K mg base CX0 11 (He.fAd K d41.at_) fd ["_law_script"] (spD mg F_law) := by
  obtain ⟨fd, F⟩ := Z.says.def_ 41 (d := d41)
  have sc := sc_law
  exact ⟨fd, F, fun base B => fn_sound F sc fun cdv A outer s H hr =>
    (ss_cons (s_asg (se_cal (ok__law_shape Z B) (hr.mono (by decide)) (sa_cons (se_op2 op_modD (se_btyI imm_intD cr_intD (Z.free 0) PyProof.Rows.boot_int (sa_cons (se_cal (ok__law_cell Z B) (hr.mono (by decide)) (sa_cons (se_var 0) (sa_cons se_int sa_nil))) sa_nil)) se_int) sa_nil)) (g_t rfl (gs_cons (g_n 9 sc.nd) (gs_cons (g_n 10 sc.nd) gs_nil))))
      (ss_cons (s_set sc.nd (se_cal (ok__law_names Z B) (hr.mono (by decide)) (sa_cons (se_cal (ok__law_cell Z B) (hr.mono (by decide)) (sa_cons (se_var 0) (sa_cons se_int sa_nil))) (sa_cons (se_var 10) sa_nil))))
      (ss_cons (s_setLc rfl sc.nd (sw_true rfl rfl rfl (by decide +kernel)) (si_rng1 (Z.free 1) (sa_cons se_int sa_nil)) (blkOk_by (own := [("_law_k", 13)]) (N := N_law) (sc := defScope (topS 55)) (by decide +kernel)) (fun _ _ _ _ _ => (g_n 13 sc.nd)) (fun _ _ _ _ _ => (se_cal (ok__law_equations Z B) (hr.mono (by decide)) (sa_cons (se_var 9) (sa_cons (se_var 10) (sa_cons (se_cal (ok__law_cell Z B) (hr.mono (by decide)) (sa_cons (se_var 0) (sa_cons (se_op2 op_addD se_int (se_var 13)) sa_nil))) sa_nil))))))
      (ss_cons (s_set sc.nd (SN.se (sn_mak (ok_System___init__ Z B) (hr.mono (by decide)) (sa_cons (SN.se (sn_mak (ok_Space___init__ Z B) (hr.mono (by decide)) (sa_cons (se_var 9) (sa_cons (se_var 1) sa_nil)))) (sa_cons (SN.se (sn_list (Z.free 2) (se_get (se_var 2) se_int))) sa_nil)))))
      (ss_cons (s_set sc.nd (SN.se (sn_mak (ok_System___init__ Z B) (hr.mono (by decide)) (sa_cons (SN.se (sn_mak (ok_Space___init__ Z B) (hr.mono (by decide)) (sa_cons (se_var 9) (sa_cons (se_var 1) sa_nil)))) (sa_cons (SN.se (sn_list (Z.free 2) (se_get (se_var 2) se_int))) sa_nil)))))
      (ss_cons (s_set sc.nd (se_cal (ok__law_solutions Z B) (hr.mono (by decide)) (sa_cons (se_var 9) (sa_cons (se_var 10) (sa_cons (se_get (se_var 2) se_int) sa_nil)))))
      (ss_cons (s_set sc.nd (se_cal (ok__law_solutions Z B) (hr.mono (by decide)) (sa_cons (se_var 9) (sa_cons (se_var 10) (sa_cons (se_get (se_var 2) se_int) sa_nil)))))
      (ss_cons (s_set sc.nd (se_cal (ok__law_points Z B) (hr.mono (by decide)) (sa_cons (se_var 9) (sa_cons (se_var 10) sa_nil))))
      (ss_cons (s_if (st_not (st_tes (se_cal (ok__law_is_polynomial Z B) (hr.mono (by decide)) (sa_cons (se_var 9) (sa_cons (se_var 10) (sa_cons (se_cal (ok_mark Z B) (hr.mono (by decide)) (sa_cons (se_var 3) sa_nil)) sa_nil))))))
      (ss_one (s_ret se_bl))
      ss_nil)
      (ss_cons (s_if (st_cmp (op_neDD hr.units) (se_cal (ok__law_table Z B) (hr.mono (by decide)) (sa_cons (se_var 9) (sa_cons (se_var 10) (sa_cons (se_cal (ok_mark Z B) (hr.mono (by decide)) (sa_cons (se_var 3) sa_nil)) sa_nil)))) (SN.se (sn_lc rfl sc.nd (si_list (se_var 7)) (blkOk_by (own := [("_law_point", 14)]) (N := N_law) (sc := defScope (topS 55)) (by decide +kernel)) (fun _ _ _ _ _ => (g_n 14 sc.nd)) (fun _ _ _ _ _ => (se_btyI imm_intD cr_intD (Z.free 0) PyProof.Rows.boot_int (sa_cons (se_cmp (op_ninLD (hu65 hr)) (se_var 14) (se_var 5)) sa_nil))))))
      (ss_one (s_ret se_bl))
      ss_nil)
      (ss_cons (s_new sc.nd (sn_lst (sa_cons (se_tup (sa_cons (se_cal (ok_both Z B) (hr.mono (by decide)) (sa_cons (se_var 3) (sa_cons (se_var 4) sa_nil))) (sa_cons (SN.se (sn_lcI rfl sc.nd (si_list (se_var 5)) (blkOk_by (own := [("_law_point", 14)]) (N := N_law) (sc := defScope (topS 55)) (by decide +kernel)) (fun _ _ _ _ _ => (g_n 14 sc.nd)) (fun _ _ _ _ _ => (st_cmp (op_inLD (hu65 hr)) (se_var 14) (se_var 6))) (fun _ _ _ _ _ => (se_var 14)))) sa_nil))) sa_nil)))
      (ss_cons (s_app (se_tup (sa_cons (se_cal (ok_either Z B) (hr.mono (by decide)) (sa_cons (se_var 3) (sa_cons (se_var 4) sa_nil))) (sa_cons (SN.se (sn_lcI rfl sc.nd (si_list (se_var 7)) (blkOk_by (own := [("_law_point", 14)]) (N := N_law) (sc := defScope (topS 55)) (by decide +kernel)) (fun _ _ _ _ _ => (g_n 14 sc.nd)) (fun _ _ _ _ _ => (SWd.st (sw_or (st_cmp (op_inLD (hu65 hr)) (se_var 14) (se_var 5)) (sw_or1 (st_cmp (op_inLD (hu65 hr)) (se_var 14) (se_var 6)))))) (fun _ _ _ _ _ => (se_var 14)))) sa_nil))))
      (ss_cons (s_app (se_tup (sa_cons (se_cal (ok_without Z B) (hr.mono (by decide)) (sa_cons (se_var 3) (sa_cons (se_var 4) sa_nil))) (sa_cons (SN.se (sn_lcI rfl sc.nd (si_list (se_var 5)) (blkOk_by (own := [("_law_point", 14)]) (N := N_law) (sc := defScope (topS 55)) (by decide +kernel)) (fun _ _ _ _ _ => (g_n 14 sc.nd)) (fun _ _ _ _ _ => (st_cmp (op_ninLD (hu65 hr)) (se_var 14) (se_var 6))) (fun _ _ _ _ _ => (se_var 14)))) sa_nil))))
      (ss_cons (s_app (se_tup (sa_cons (se_cal (ok_opposite Z B) (hr.mono (by decide)) (sa_cons (se_var 3) sa_nil)) (sa_cons (SN.se (sn_lcI rfl sc.nd (si_list (se_var 7)) (blkOk_by (own := [("_law_point", 14)]) (N := N_law) (sc := defScope (topS 55)) (by decide +kernel)) (fun _ _ _ _ _ => (g_n 14 sc.nd)) (fun _ _ _ _ _ => (st_cmp (op_ninLD (hu65 hr)) (se_var 14) (se_var 5))) (fun _ _ _ _ _ => (se_var 14)))) sa_nil))))
      (ss_frz 8 (ss_cons (s_for PassesOwn.never rfl (si_list (se_var 8)) (g_t rfl (gs_cons (g_n 11 sc.nd) (gs_cons (g_n 12 sc.nd) gs_nil)))
      (ss_cons (s_if (SWd.st (sw_or (st_not (st_tes (se_isC (Z.free 3) (Z.glo 4) (Z.clsK 5) (Z.exf 0) (se_var 11)))) (sw_or (st_cmp (op_neDD hr.units) (se_fld (at_cons (Z.at 7 8 9) at_nil) (se_fld (at_cons (Z.at 4 5 6) at_nil) (se_var 11))) (se_var 9)) (sw_or1 (st_cmp (op_neDD hr.units) (se_fld (at_cons (Z.at 7 8 10) at_nil) (se_fld (at_cons (Z.at 4 5 6) at_nil) (se_var 11))) (se_var 1))))))
      (ss_one (s_ret se_bl))
      ss_nil)
      (ss_cons (s_if (SWd.st (sw_or (st_cmp op_gtD (se_bltI imm_lenD cr_lenD (Z.free 12) boot_len (sa_cons (se_fld (at_cons (Z.at 4 5 11) at_nil) (se_var 11)) sa_nil)) se_int) (sw_or1 (st_not (st_tes (se_bltI imm_allL (cr_allL rfl) (Z.free 13) boot_all (sa_cons (SN.se (sn_lc rfl sc.nd (si_list (se_fld (at_cons (Z.at 4 5 11) at_nil) (se_var 11))) (blkOk_by (own := [("_law_each", 15)]) (N := N_law) (sc := defScope (topS 55)) (by decide +kernel)) (fun _ _ _ _ _ => (g_n 15 sc.nd)) (fun _ _ _ _ _ => (se_cal (ok__law_is_polynomial Z B) (hr.mono (by decide)) (sa_cons (se_var 9) (sa_cons (se_var 10) (sa_cons (se_var 15) sa_nil))))))) sa_nil)))))))
      (ss_one (s_ret se_bl))
      ss_nil)
      (ss_one (s_if (SWd.st (sw_or (st_cmp (op_neDD hr.units) (se_cal (ok__law_solutions Z B) (hr.mono (by decide)) (sa_cons (se_var 9) (sa_cons (se_var 10) (sa_cons (se_fld (at_cons (Z.at 4 5 11) at_nil) (se_var 11)) sa_nil)))) (se_var 12)) (sw_or1 (st_cmp (op_neDD hr.units) (se_met0 (ok_System_solutions Z B) (hr.mono (by decide)) (se_var 11)) (se_var 12)))))
      (ss_one (s_ret se_bl))
      ss_nil)))))
      (ss_one (s_ret (se_and (se_cmp (op_eqDD hr.units) (se_fld (at_cons (Z.at 4 5 11) at_nil) (se_var 3)) (se_get (se_var 2) se_int)) (se_one (se_cmp (op_eqDD hr.units) (se_fld (at_cons (Z.at 4 5 11) at_nil) (se_var 4)) (se_get (se_var 2) se_int))))))))))))))))))))))⟩
end

end PV

namespace PV
open PySem
def sqK (b : Sx) : DRes → Option DRes
  | .nx e => b e
  | .ret d => some (.ret d)
  | .bk e => some (.bk e)
  | .ct e => some (.ct e)
def ifK (a b : Sx) (e : DEnv) : Bool → Option DRes
  | true => a e
  | false => b e
def ifX (a b : Ex) (e : DEnv) : Bool → Option D
  | true => a e
  | false => b e
def ifT (a b : Tx) (e : DEnv) : Bool → Option Bool
  | true => a e
  | false => b e
def fncK : DRes → Option D
  | .ret d => some d
  | .nx _ => some .non
  | _ => none
def iniK (c : Str) : DRes → Option D
  | .nx e => match (e[0]? : Option DSlot) with
    | some (DSlot.slf (D.ins c' fs xs)) => if c' = c then some (.ins c' fs xs) else none
    | _ => none
  | _ => none
def ctK : DRes → Option DRes
  | .ct e => some (.nx e)
  | r => some r
def lcK (ys : List D) : Option D := some (.lst ys)
def lstK : D → Option (List D)
  | .lst xs => some xs
  | _ => none
def tupK : D → Option (List D)
  | .tup xs => some xs
  | .ftup xs => some xs
  | _ => none
def blK : D → Option Bool
  | .bl b => some b
  | _ => none
def ovK : DSlot → Option D
  | .own d => some d
  | _ => none
def vaK : DSlot → Option D
  | .val d => some d
  | _ => none
theorem sqK_nx {b : Sx} {e} : sqK b (.nx e) = b e := rfl
theorem sqK_ret {b : Sx} {d} : sqK b (.ret d) = some (.ret d) := rfl
theorem sqK_bk {b : Sx} {e} : sqK b (.bk e) = some (.bk e) := rfl
theorem sqK_ct {b : Sx} {e} : sqK b (.ct e) = some (.ct e) := rfl
theorem ifK_t {a b : Sx} {e} : ifK a b e true = a e := rfl
theorem ifK_f {a b : Sx} {e} : ifK a b e false = b e := rfl
theorem ifX_t {a b : Ex} {e} : ifX a b e true = a e := rfl
theorem ifX_f {a b : Ex} {e} : ifX a b e false = b e := rfl
theorem ifT_t {a b : Tx} {e} : ifT a b e true = a e := rfl
theorem ifT_f {a b : Tx} {e} : ifT a b e false = b e := rfl
theorem fncK_ret {d} : fncK (.ret d) = some d := rfl
theorem fncK_nx {e} : fncK (.nx e) = some .non := rfl
theorem ctK_nx {e} : ctK (.nx e) = some (.nx e) := rfl
theorem ctK_ct {e} : ctK (.ct e) = some (.nx e) := rfl
theorem ctK_ret {d} : ctK (.ret d) = some (.ret d) := rfl
theorem lcK_e {ys} : lcK ys = some (.lst ys) := rfl
theorem lstK_e {ys} : lstK (.lst ys) = some ys := rfl
theorem tupK_e {ys} : tupK (.tup ys) = some ys := rfl
theorem tupK_f {ys} : tupK (.ftup ys) = some ys := rfl
theorem blK_e {b} : blK (.bl b) = some b := rfl
theorem ovK_e {d} : ovK (.own d) = some d := rfl
theorem vaK_e {d} : vaK (.val d) = some d := rfl
theorem sq_e {a b : Sx} {e} : sq a b e = (a e).bind (sqK b) := by
  unfold sq; congr; funext r; cases r <;> rfl
theorem skip_e {e} : skip e = some (.nx e) := rfl
theorem setE_e {a : Ex} {e} : setE i a e = (a e).bind fun d => some (.nx (e.set i (.val d))) := rfl
theorem newE_e {a : Ex} {e} : newE i a e = (a e).bind fun d => some (.nx (e.set i (.own d))) := rfl
theorem rt_e {a : Ex} {e} : rt a e = (a e).bind fun d => some (.ret d) := rfl
theorem brk_e {e} : brk e = some (.bk e) := rfl
theorem cnt_e {e} : cnt e = some (.ct e) := rfl
theorem ifS_e {t : Tx} {a b : Sx} {e} : ifS t a b e = (t e).bind (ifK a b e) := by
  unfold ifS; congr; funext c; cases c <;> rfl
theorem ife_e {t : Tx} {a b : Ex} {e} : ife t a b e = (t e).bind (ifX a b e) := by
  unfold ife; congr; funext c; cases c <;> rfl
theorem var_e {e : DEnv} : var i e = (e[i]?).bind vaK := by
  unfold var; cases e[i]? with
  | none => rfl
  | some s => cases s <;> rfl
theorem ovar_e {e : DEnv} : ovar i e = (e[i]?).bind ovK := by
  unfold ovar; cases e[i]? with
  | none => rfl
  | some s => cases s <;> rfl
theorem cst_e {e} : cst d e = some d := rfl
theorem imm_e {a : Ex} {e} : imm a e = (a e).bind fun d => if d.imm then some d else none := rfl
theorem op1_e {a : Ex} {e} : op1 f a e = (a e).bind f := rfl
theorem op2_e {a b : Ex} {e} : op2 f a b e = (a e).bind fun x => (b e).bind (f x) := rfl
theorem op3_e {a b c : Ex} {e} : op3 f a b c e = (a e).bind fun x => (b e).bind fun y => (c e).bind (f x y) := rfl
theorem aN_e {e} : aN e = some [] := rfl
theorem aC_e {a : Ex} {r : Ax} {e} : aC a r e = (a e).bind fun x => (r e).bind fun xs => some (x :: xs) := rfl
theorem tupE_e {a : Ax} {e} : tupE a e = (a e).bind fun xs => if xs.length ≤ szL then some (.tup xs) else none := rfl
theorem lstE_e {a : Ax} {e} : lstE a e = (a e).bind fun xs => if xs.length ≤ szL then some (.lst xs) else none := rfl
theorem cal_e {f : Fn} {a : Ax} {e} : cal f a e = (a e).bind f := rfl
theorem f1_e {f : D → Option D} {d} : f1 f [d] = f d := rfl
theorem cmp_e {f : D → D → Option Bool} {a b : Ex} {e} : cmp f a b e = (a e).bind fun x => (b e).bind (f x) := rfl
theorem flip_e {f : D → D → Option Bool} {x y} : flip f x y = f y x := rfl
theorem neg_e {f : D → D → Option Bool} {x y} : neg f x y = (f x y).map not := rfl
theorem chn_e {f g : D → D → Option Bool} {a b c : Ex} {e} : chn f g a b c e = (a e).bind fun x => (b e).bind fun y => (f x y).bind (ifT (fun e => (c e).bind fun z => g y z) (fun _ => some false) e) := by
  unfold chn; congr; funext x; congr; funext y; congr; funext r; cases r <;> rfl
theorem boo_e {t : Tx} {e} : boo t e = (t e).map D.bl := rfl
theorem tes_e {a : Ex} {e} : tes a e = (a e).bind blK := by
  unfold tes; congr
def ff : Tx := fun _ => some false
def tt : Tx := fun _ => some true
theorem ff_e {e} : ff e = some false := rfl
theorem tt_e {e} : tt e = some true := rfl
theorem andT_e {a b : Tx} {e} : andT a b e = (a e).bind (ifT b ff e) := by
  unfold andT; congr; funext c; cases c <;> rfl
theorem orT_e {a b : Tx} {e} : orT a b e = (a e).bind (ifT tt b e) := by
  unfold orT; congr; funext c; cases c <;> rfl
theorem notT_e {a : Tx} {e} : notT a e = (a e).map not := rfl
def fX : Ex := fun _ => some (.bl false)
def tX : Ex := fun _ => some (.bl true)
theorem fX_e {e} : fX e = some (.bl false) := rfl
theorem tX_e {e} : tX e = some (.bl true) := rfl
theorem andV_e {a b : Ex} {e} : andV a b e = ((a e).bind blK).bind (ifX b fX e) := by
  unfold andV
  cases a e with
  | none => rfl
  | some d => cases d with
    | bl c => cases c <;> rfl
    | _ => rfl
theorem orV_e {a b : Ex} {e} : orV a b e = ((a e).bind blK).bind (ifX tX b e) := by
  unfold orV
  cases a e with
  | none => rfl
  | some d => cases d with
    | bl c => cases c <;> rfl
    | _ => rfl
theorem notV_e {a : Ex} {e} : notV a e = ((a e).bind blK).map fun c => .bl (!c) := by
  unfold notV
  cases a e with
  | none => rfl
  | some d => cases d <;> rfl
theorem isN_e {a : Ex} {e} : isN a e = (a e).map isNonD := rfl
theorem yes_e {e} : yes e = some true := rfl
theorem asg_e {a : Ex} {e} : asg g a e = (a e).bind fun d => (gD g d e).bind fun e' => some (.nx e') := rfl
theorem gD_n {e} : gD (.n i) d e = some (e.set i (.val d)) := by unfold gD; rfl
theorem gD_t {e} : gD (.t l) (.tup xs) e = gDs l xs e := by unfold gD; rfl
theorem gDs_n {e} : gDs [] [] e = some e := by unfold gDs; rfl
theorem gDs_c {e} : gDs (g :: gs) (d :: ds) e = (gD g d e).bind (gDs gs ds) := by
  conv => lhs; unfold gDs
theorem frz_e {b : Sx} {e : DEnv} : frz j b e = ((e[j]?).bind ovK).bind fun d => b (e.set j (.val d)) := by
  unfold frz; cases e[j]? with
  | none => rfl
  | some s => cases s <;> rfl
theorem mov_e {e : DEnv} : mov i j e = ((e[j]?).bind ovK).bind fun d => some (.nx ((e.set j .no).set i (.val d))) := by
  unfold mov; cases e[j]? with
  | none => rfl
  | some s => cases s <;> rfl
theorem movO_e {e : DEnv} : movO i j e = ((e[j]?).bind ovK).bind fun d => some (.nx ((e.set j .no).set i (.own d))) := by
  unfold movO; cases e[j]? with
  | none => rfl
  | some s => cases s <;> rfl
theorem forE_e {it : Ax} {b : Sx} {e} : forE it g b e = (it e).bind fun xs => loop (gD g) b xs e := rfl
theorem iLst_e {a : Ex} {e} : iLst a e = (a e).bind lstK := by
  unfold iLst; congr
theorem iTp_e {a : Ex} {e} : iTp a e = (a e).bind tupK := by
  unfold iTp; congr
theorem iRng_e {a : Ax} {e} : iRng a e = (a e).bind rngL := rfl
theorem one1_c {a : Ex} {e} : one1 (aC a aN) e = (a e).bind fun x => some [x] := by
  simp only [one1, aC_e, aN_e, Option.bind_some]; cases a e <;> rfl
theorem two2_c {a b : Ex} {e} : two2 (aC a (aC b aN)) e = (a e).bind fun x => (b e).bind fun y => some [x, y] := by
  simp only [two2, aC_e, aN_e, Option.bind_some]
  cases a e with
  | none => rfl
  | some x => cases b e <;> rfl
theorem iZp_e {a : Ax} {e} : iZp a e = (a e).bind zipD := rfl
theorem lcE_e {it : Ax} {t : Tx} {a : Ex} {e} : lcE it g t a ws e = (it e).bind fun xs => if xs.length ≤ szL ∧ noOwn e ws = true then (lcRun (gD g) t a (wip e ws) xs).bind lcK else none := rfl
theorem lc2E_e {it it1 : Ax} {a : Ex} {e} : lc2E it g it1 g1 a ws ws1 e = (it e).bind fun xs => if noOwn e ws = true then (lc2Run (gD g) (gD g1) it1 a ws1 (wip e ws) xs).bind fun ys => if ys.length ≤ szL then some (.lst ys) else none else none := rfl
theorem wip_n {e} : wip e [] = e := rfl
theorem wip_c {e} : wip e (v :: vs) = (wip e vs).set v .no := rfl
def noO : Option DSlot → Bool
  | some DSlot.no => true
  | some (DSlot.val _) => true
  | _ => false
theorem noOwn_n {e} : noOwn e [] = true := rfl
theorem noOwn_c {e : DEnv} : noOwn e (v :: vs) = (noO e[v]? && noOwn e vs) := by
  simp only [noOwn, List.all_cons]; rfl
theorem noO_no : noO (some .no) = true := rfl
theorem noO_val : noO (some (.val d)) = true := rfl
theorem fnc_e {b : Sx} {ds} : fnc m n b ds = if ds.length = m then (b (ds.map DSlot.val ++ List.replicate (n - m) DSlot.no)).bind fncK else none := by
  unfold fnc; congr
theorem ini_e {b : Sx} {ds} : ini c m n b ds = if ds.length + 1 = m then (b (DSlot.slf (.ins c [] []) :: (ds.map DSlot.val ++ List.replicate (n - m) DSlot.no))).bind (iniK c) else none := by
  unfold ini; rfl
theorem met_e {o : Ex} {a : Ax} {e} : met l m o a e = (o e).bind fun d => (a e).bind fun ds => metD l m ds d := rfl
theorem fld_e {a : Ex} {e} : fld cs f a e = (a e).bind (attr cs f) := rfl
theorem slE_e {a : Ex} {e} : slE f a lo hi e = (a e).bind fun d => (lo e).bind fun l => (hi e).bind fun h => f l h d := rfl
def prK : D → Option (Option Int)
  | .int i => some (some i)
  | _ => none
theorem prK_e : prK (.int i) = some (some i) := rfl
theorem prt_e {a : Ex} {e} : prt a e = (a e).bind prK := by unfold prt; congr
theorem prN_e {e} : prN e = some none := rfl
theorem dic1_e {k v : Ex} {e} : dic1 k v e = (k e).bind fun x => (v e).bind fun y => if keyD true x then some (.dic true [x] [y]) else none := rfl
def appK (i : Nat) (d : D) (e : DEnv) : Option DSlot → Option DRes
  | some (DSlot.own (D.lst xs)) => if xs.length < szL then some (.nx (e.set i (.own (.lst (xs ++ [d]))))) else none
  | _ => none
theorem appK_e : appK i d e (some (.own (.lst xs))) = if xs.length < szL then some (.nx (e.set i (.own (.lst (xs ++ [d]))))) else none := rfl
theorem app_e {a : Ex} {e : DEnv} : app i a e = (a e).bind fun d => appK i d e e[i]? := by
  unfold app; congr
def extK (i : Nat) (d : D) (e : DEnv) : Option DSlot → Option DRes
  | some (DSlot.own (D.lst xs)) => match d with
    | .lst ys => if xs.length + ys.length ≤ szL then some (.nx (e.set i (.own (.lst (xs ++ ys))))) else none
    | _ => none
  | _ => none
theorem extK_e : extK i (.lst ys) e (some (.own (.lst xs))) = if xs.length + ys.length ≤ szL then some (.nx (e.set i (.own (.lst (xs ++ ys))))) else none := rfl
theorem ext_e {a : Ex} {e : DEnv} : ext i a e = (a e).bind fun d => extK i d e e[i]? := by
  unfold ext extK; congr; funext d
  cases e[i]? with
  | none => rfl
  | some s => cases s with
    | own x => cases x <;> cases d <;> rfl
    | _ => rfl
def stKK (i : Nat) (d kd : D) (e : DEnv) : Option DSlot → Option DRes
  | some (DSlot.own (D.dic t ks vs)) => if keyD t kd ∧ ks.length < szL ∧ ks.length = vs.length then some (.nx (e.set i (.own (.dic t (dput ks vs kd d).1 (dput ks vs kd d).2)))) else none
  | _ => none
theorem stK_e {a k : Ex} {e : DEnv} : stK i k a e = (a e).bind fun d => (k e).bind fun kd => stKK i d kd e e[i]? := by
  unfold stK; congr
theorem stKK_e : stKK i d kd e (some (.own (.dic t ks vs))) = if keyD t kd ∧ ks.length < szL ∧ ks.length = vs.length then some (.nx (e.set i (.own (.dic t (dput ks vs kd d).1 (dput ks vs kd d).2)))) else none := rfl
def drpK (e : DEnv) : D → Option DRes
  | .lst xs => if xs.length < szL then some (.nx e) else none
  | _ => none
theorem drpA_e {a b : Ex} {e} : drpA a b e = (a e).bind fun d => (b e).bind fun _ => drpK e d := by
  unfold drpA; congr
theorem drpK_e : drpK e (.lst xs) = if xs.length < szL then some (.nx e) else none := rfl
theorem szL_le {n : Nat} (h : n ≤ 16777216) : (n ≤ szL) = True := eq_true h
theorem szL_lt {n : Nat} (h : n < 16777216) : (n < szL) = True := eq_true h
theorem addD_int : addD (.int a) (.int b) = some (.int (a + b)) := rfl
theorem addD_tup (h : a.length + b.length ≤ 16777216) : addD (.tup a) (.tup b) = some (.tup (a ++ b)) := by
  simp only [addD]; exact if_pos h
def catF (a b : List D) : D := if a.isEmpty then .ftup b else if b.isEmpty then .ftup a else .tup (a ++ b)
theorem tupK_cat : tupK (catF a b) = some (a ++ b) := by
  unfold catF
  split
  · rename_i h; rw [List.isEmpty_iff.mp h]; rfl
  · split
    · rename_i h; rw [List.isEmpty_iff.mp h, List.append_nil]; rfl
    · rfl
theorem addD_ff (h : a.length + b.length ≤ 16777216) : addD (.ftup a) (.ftup b) = some (catF a b) := by
  simp only [addD]; exact if_pos h
theorem addD_lst (h : a.length + b.length ≤ 16777216) : addD (.lst a) (.lst b) = some (.lst (a ++ b)) := by
  simp only [addD]; exact if_pos h
theorem subD_int : subD (.int a) (.int b) = some (.int (a - b)) := rfl
theorem b64_sm {a : Int} (h : -18446744073709551616 < a ∧ a < 18446744073709551616) : b64 a = true := b64_of h
theorem mulD_l (h : -18446744073709551616 < a ∧ a < 18446744073709551616) : mulD (.int a) (.int b) = some (.int (a * b)) := by
  simp only [mulD, b64_sm h, Bool.true_or, if_true]
theorem mulD_r (h : -18446744073709551616 < b ∧ b < 18446744073709551616) : mulD (.int a) (.int b) = some (.int (a * b)) := by
  simp only [mulD, b64_sm h, Bool.or_true, if_true]
theorem modD_int (h : 0 < b) : modD (.int a) (.int b) = some (.int (a % b)) := by
  simp only [modD]; exact if_pos h
theorem divD_int (h : 0 < b ∧ b < 1073741824) : divD (.int a) (.int b) = some (.int (a / b)) := by
  simp only [divD, h, decide_true, Bool.and_true, if_true]
theorem powD_18 : powD (.int 10) (.int 18) = some (.int 1000000000000000000) := by
  unfold powD; rfl
theorem intD_int : intD (.int a) = some (.int a) := rfl
theorem intD_bl : intD (.bl a) = some (.int (if a then 1 else 0)) := rfl
theorem ltD_int : ltD (.int a) (.int b) = some (decide (a < b)) := rfl
theorem leD_int : leD (.int a) (.int b) = some (decide (a ≤ b)) := rfl
theorem eqD_int : eqD (.int a) (.int b) = some (decide (a = b)) := by
  simp only [eqD, D.plain, D.eqv, Bool.and_self, if_true]; congr
theorem eqD_bl : eqD (.bl a) (.bl b) = some (a == b) := by
  simp only [eqD, D.plain, D.eqv, Bool.and_self, if_true]
theorem lenD_lst : lenD (.lst xs) = some (.int xs.length) := rfl
theorem lenD_tup : lenD (.tup xs) = some (.int xs.length) := rfl
theorem lenD_scr : lenD (.scr xs) = some (.int xs.length) := rfl
theorem ftupD_lst : ftupD (.lst xs) = some (.ftup xs) := rfl
theorem lenD_f : lenD (.ftup xs) = some (.int xs.length) := rfl
theorem ftupE_e {a : Ax} {e} : ftupE a e = (a e).bind fun xs => if xs.length ≤ szL then some (.ftup xs) else none := rfl
theorem tupD_lst : tupD (.lst xs) = some (.tup xs) := rfl
theorem listD_lst : listD (.lst xs) = some (.lst xs) := rfl
theorem listD_tup : listD (.tup xs) = some (.lst xs) := rfl
theorem revL_lst : revL (.lst xs) = some (.lst xs.reverse) := rfl
theorem isBool_bl : isBool (.bl b) = some (.bl true) := rfl
theorem getD_l {xs : List D} {i : Int} (h : 0 ≤ i) : getD (.lst xs) (.int i) = xs[i.toNat]? := by
  simp only [getD, PV.ixN, if_pos h]
  split
  · rfl
  · rw [List.getElem?_eq_none (by omega)]; rfl
theorem getD_t {xs : List D} {i : Int} (h : 0 ≤ i) : getD (.tup xs) (.int i) = xs[i.toNat]? := by
  simp only [getD, PV.ixN, if_pos h]
  split
  · rfl
  · rw [List.getElem?_eq_none (by omega)]; rfl
theorem getD_f {xs : List D} {i : Int} (h : 0 ≤ i) : getD (.ftup xs) (.int i) = xs[i.toNat]? := by
  simp only [getD, PV.ixN, if_pos h]
  split
  · rfl
  · rw [List.getElem?_eq_none (by omega)]; rfl
theorem getD_s {xs : List Int} {i : Int} (h : 0 ≤ i) : getD (.scr xs) (.int i) = (xs[i.toNat]?).map D.int := by
  simp only [getD, PV.ixN, if_pos h]
  split
  · rfl
  · rw [List.getElem?_eq_none (by omega)]; rfl
theorem rngL_n {n : Nat} (h : n < 4611686018427387904) : rngL [.int (n : Int)] = some ((List.range n).map fun (k : Nat) => D.int (k : Int)) := by
  have e1 : (-(2 ^ 62) : Int) ≤ (n : Int) := by omega
  have e2 : (n : Int) < 2 ^ 62 := by omega
  simp only [rngL, e1, e2, and_self, decide_true, if_true, Int.toNat_natCast]
theorem rngL_2 {m n : Int} (h : -4611686018427387904 ≤ m ∧ m < 4611686018427387904 ∧ -4611686018427387904 ≤ n ∧ n < 4611686018427387904) : rngL [.int m, .int n] = some ((List.range (n - m).toNat).map fun (k : Nat) => D.int (m + (k : Int))) := by
  simp only [rngL]
  rw [if_pos (by simpa using h)]
theorem rngL_i {n : Int} (h : -4611686018427387904 ≤ n ∧ n < 4611686018427387904) : rngL [.int n] = some ((List.range n.toNat).map fun (k : Nat) => D.int (k : Int)) := by
  have e1 : (-(2 ^ 62) : Int) ≤ n := by omega
  have e2 : n < 2 ^ 62 := by omega
  simp only [rngL, e1, e2, and_self, decide_true, if_true]
theorem sumL_ints {l : List Int} : sumL (.lst (l.map D.int)) = some (.int l.sum) := by
  have : ∀ l : List Int, intsOf (l.map D.int) = some l := fun l => by
    induction l with
    | nil => rfl
    | cons a l ih => simp [intsOf, ih]
  simp [sumL, this]
theorem intsOf_map : ∀ l : List Int, intsOf (l.map D.int) = some l := fun l => by
    induction l with
    | nil => rfl
    | cons a l ih => simp [intsOf, ih]
theorem sumT_tup {l : List Int} : sumT (.tup (l.map D.int)) = some (.int l.sum) := by
  simp [sumT, intsOf_map]
theorem sumT_lst {l : List Int} : sumT (.lst (l.map D.int)) = some (.int l.sum) := by
  simp [sumT, intsOf_map]
theorem blsOf_map : ∀ l : List Bool, blsOf (l.map D.bl) = some l := fun l => by
    induction l with
    | nil => rfl
    | cons a l ih => simp [blsOf, ih]
theorem allL_bls {l : List Bool} : allL (.lst (l.map D.bl)) = some (.bl (l.all id)) := by
  simp [allL, blsOf_map]
theorem anyL_bls {l : List Bool} : anyL (.lst (l.map D.bl)) = some (.bl (l.any id)) := by
  simp [anyL, blsOf_map]
theorem set_0 {s t : DSlot} {e : List DSlot} : (s :: e).set 0 t = t :: e := rfl
theorem set_s {s t : DSlot} {e : List DSlot} {n : Nat} : (s :: e).set (n + 1) t = s :: e.set n t := rfl
theorem max2_int : max2 [.int a, .int b] = some (.int (if b > a then b else a)) := rfl
theorem isBD_bl : isBD (.bl a) (.bl b) = some (a == b) := rfl
theorem revT_tup : revT (.tup xs) = some (.tup xs.reverse) := rfl
theorem iEnum_e {a : Ax} {e} : iEnum a e = (a e).bind enumD := rfl
theorem iItm_e {a : Ex} {e} : iItm a e = (a e).bind itemsD := rfl
theorem iZm_e {a : Ax} {e} : iZm a e = (a e).bind zipM := rfl
theorem addI_int : addI (.int a) (.int b) = some (.int (a + b)) := rfl
theorem subI_int : subI (.int a) (.int b) = some (.int (a - b)) := rfl
theorem isLst_l : isLst (.lst xs) = some (.bl true) := rfl
theorem isC_i : isC c (.ins c fs xs) = some (.bl true) := by simp [isC]
theorem iSq_e {a : Ex} {e} : iSq a e = (a e).bind seqK := rfl
theorem seqK_t : seqK (.tup xs) = some xs := rfl
theorem seqK_l : seqK (.lst xs) = some xs := rfl
theorem dcE_e {it : Ax} {kx vx : Ex} {e} : dcE t it g kx vx ws e = (it e).bind fun xs => if xs.length ≤ szL ∧ noOwn e ws = true then (dcRun t (gD g) kx vx (wip e ws) xs [] []).bind fun r => some (.dic t r.1 r.2) else none := rfl
theorem lcRun_m {α β : Type} {g : Gx} {a : Ex} {e0 : DEnv} {enc : α → D} {enc' : β → D} (f : α → β) : ∀ {xs : List α}, (∀ x ∈ xs, (g (enc x) e0).bind a = some (enc' (f x))) → lcRun g yes a e0 (xs.map enc) = some ((xs.map f).map enc')
  | [], _ => rfl
  | x :: xs, h => by
    have h1 := h x List.mem_cons_self
    have h2 := lcRun_m f (xs := xs) fun y hy => h y (List.mem_cons_of_mem _ hy)
    rw [List.map_cons, List.map_cons, List.map_cons]
    unfold lcRun
    cases hg : g (enc x) e0 with
    | none => simp [hg] at h1
    | some e1 =>
      rw [hg, Option.bind_some] at h1
      simp [yes, h1, h2]
def lcT (a : Ex) (e : DEnv) : Bool → Option (Option D)
  | true => (a e).map some
  | false => some none
theorem lcT_t {a : Ex} {e} : lcT a e true = (a e).map some := rfl
theorem lcT_f {a : Ex} {e} : lcT a e false = some none := rfl
theorem lcRun_f {α β : Type} {g : Gx} {t : Tx} {a : Ex} {e0 : DEnv} {enc : α → D} {enc' : β → D} (p : α → Bool) (f : α → β) : ∀ {xs : List α}, (∀ x ∈ xs, (g (enc x) e0).bind (fun e => (t e).bind (lcT a e)) = some (if p x then some (enc' (f x)) else none)) → lcRun g t a e0 (xs.map enc) = some (((xs.filter p).map f).map enc')
  | [], _ => rfl
  | x :: xs, h => by
    have h1 := h x List.mem_cons_self
    have h2 := lcRun_f p f (xs := xs) fun y hy => h y (List.mem_cons_of_mem _ hy)
    rw [List.map_cons, List.filter_cons]
    unfold lcRun
    cases hg : g (enc x) e0 with
    | none => simp [hg] at h1
    | some e1 =>
      rw [hg, Option.bind_some] at h1
      rw [Option.bind_some]
      cases ht : t e1 with
      | none => simp [ht] at h1
      | some c =>
        rw [ht, Option.bind_some] at h1
        rw [Option.bind_some]
        cases c with
        | false => cases hp : p x <;> simp [lcT, hp] at h1 ⊢; simpa using h2
        | true =>
          cases hp : p x <;> simp [lcT, hp] at h1 ⊢
          simp [h1, h2]
theorem lc2Run_m {α β γ : Type} {g g1 : Gx} {it : Ax} {a : Ex} {e0 : DEnv} {enc : α → D} {enc1 : β → D} {enc' : γ → D} (ys : α → List β) (f : α → β → γ) : ∀ {xs : List α},
    (∀ x ∈ xs, ∃ e1, g (enc x) e0 = some e1 ∧ it e1 = some ((ys x).map enc1) ∧ noOwn e1 ws = true ∧ ∀ y ∈ ys x, (g1 (enc1 y) (wip e1 ws)).bind a = some (enc' (f x y))) →
    lc2Run g g1 it a ws e0 (xs.map enc) = some ((xs.flatMap fun x => (ys x).map (f x)).map enc')
  | [], _ => rfl
  | x :: xs, h => by
    obtain ⟨e1, h1, h2, h3, h4⟩ := h x List.mem_cons_self
    have h5 := lc2Run_m ys f (xs := xs) fun y hy => h y (List.mem_cons_of_mem _ hy)
    rw [List.map_cons, List.flatMap_cons]
    unfold lc2Run
    rw [h1, Option.bind_some, h2, Option.bind_some, if_pos h3, lcRun_m (f x) h4, Option.bind_some, h5, Option.bind_some]
    simp
end PV

namespace PV
open PySem
theorem loop_ix {α : Type} {g : Gx} {b : Sx} {enc : α → D} (P : Nat → DEnv → Prop) : ∀ (xs : List α) (e : DEnv) (n : Nat), P n e → (∀ i x e, xs[i]? = some x → P (n + i) e → ∃ e2, ((g (enc x) e).bind b).bind ctK = some (.nx e2) ∧ P (n + i + 1) e2) → ∃ e', loop g b (xs.map enc) e = some (.nx e') ∧ P (n + xs.length) e'
  | [], e, n, h, _ => ⟨e, rfl, h⟩
  | x :: xs, e, n, h, st => by
    obtain ⟨e2, h1, h3⟩ := st 0 x e rfl h
    obtain ⟨e', h4, h5⟩ := loop_ix P xs e2 (n + 1) h3 fun i y e hy hp => by
      have := st (i + 1) y e (by simpa using hy) (by rw [show n + (i + 1) = n + 1 + i by omega]; exact hp)
      rw [show n + (i + 1) + 1 = n + 1 + i + 1 by omega] at this
      exact this
    refine ⟨e', ?_, by rw [List.length_cons, show n + (xs.length + 1) = n + 1 + xs.length by omega]; exact h5⟩
    rw [List.map_cons, ← h4]
    conv => lhs; unfold loop
    cases hg : g (enc x) e with
    | none => simp [hg] at h1
    | some e1 =>
      rw [hg, Option.bind_some] at h1
      rw [Option.bind_some]
      cases hb : b e1 with
      | none => simp [hb] at h1
      | some r =>
        rw [hb, Option.bind_some] at h1
        rw [Option.bind_some]
        cases r <;> simp [ctK] at h1 <;> simp [h1]
theorem loop_o {α : Type} {g : Gx} {b : Sx} {enc : α → D} {xs : List α} {e0 : DEnv} {o : Option DRes} (hl : loop g b (xs.map enc) e0 = o) (P : Nat → DEnv → Prop) (hi : P 0 e0) (h : ∀ i x e, xs[i]? = some x → P i e → ∃ e2, ((g (enc x) e).bind b).bind ctK = some (.nx e2) ∧ P (i + 1) e2) :
    ∃ e, o = some (.nx e) ∧ P xs.length e := by
  obtain ⟨e', h1, h2⟩ := loop_ix (g := g) (b := b) (enc := enc) P xs e0 0 hi fun i x e h1 h2 => by
    rw [Nat.zero_add] at h2 ⊢; exact h i x e h1 h2
  exact ⟨e', hl.symm.trans h1, by rw [Nat.zero_add] at h2; exact h2⟩
theorem loop_p {α : Type} {g : Gx} {b : Sx} {enc : α → D} {xs : List α} {e0 : DEnv} {o : Option DRes} (hl : loop g b (xs.map enc) e0 = o) (P : List α → DEnv → Prop) (hi : P [] e0)
    (h : ∀ pre x e, x ∈ xs → pre.length < xs.length → P pre e → ∃ e2, ((g (enc x) e).bind b).bind ctK = some (.nx e2) ∧ P (pre ++ [x]) e2) :
    ∃ e, o = some (.nx e) ∧ P xs e := by
  obtain ⟨e, h1, h2⟩ := loop_o hl (fun i e => P (xs.take i) e) (by simpa using hi) (by
    intro i x e hx hp
    obtain ⟨hx1, hx2⟩ := List.getElem?_eq_some_iff.mp hx
    have h3 := h (xs.take i) x e (by rw [← hx2]; exact List.getElem_mem hx1) (by rw [List.length_take]; omega) hp
    rw [List.take_succ, hx]
    exact h3)
  exact ⟨e, h1, by simpa using h2⟩
theorem loop_ri {α : Type} {g : Gx} {b : Sx} {enc : α → D} (P : Nat → DEnv → Prop) (ok : Nat → Bool) (d : D) : ∀ (xs : List α) (n : Nat) (e0 : DEnv), P n e0 →
    (∀ i x e, xs[i]? = some x → P (n + i) e → (ok (n + i) = true → ∃ e2, ((g (enc x) e).bind b).bind ctK = some (.nx e2) ∧ P (n + i + 1) e2) ∧ (ok (n + i) = false → (g (enc x) e).bind b = some (.ret d))) →
    ((∀ i, i < xs.length → ok (n + i) = true) → ∃ e, loop g b (xs.map enc) e0 = some (.nx e) ∧ P (n + xs.length) e) ∧ ((∃ i, i < xs.length ∧ ok (n + i) = false) → loop g b (xs.map enc) e0 = some (.ret d))
  | [], n, e0, h, _ => ⟨fun _ => ⟨e0, rfl, h⟩, fun ⟨i, hi, _⟩ => by simp at hi⟩
  | x :: xs, n, e0, h, st => by
    obtain ⟨s1, s2⟩ := st 0 x e0 rfl h
    rw [Nat.add_zero] at s1 s2
    cases ho : ok n with
    | false =>
      have z := s2 ho
      refine ⟨fun q => absurd (q 0 (by simp)) (by rw [Nat.add_zero, ho]; simp), fun _ => ?_⟩
      rw [List.map_cons]
      unfold loop
      cases hg : g (enc x) e0 with
      | none => simp [hg] at z
      | some e1 =>
        rw [hg, Option.bind_some] at z
        rw [Option.bind_some, z]; rfl
    | true =>
      obtain ⟨e2, h1, h3⟩ := s1 ho
      have ih := loop_ri (g := g) (b := b) (enc := enc) P ok d xs (n + 1) e2 h3 fun i y e hy hp => by
        have := st (i + 1) y e (by simpa using hy) (by rw [show n + (i + 1) = n + 1 + i by omega]; exact hp)
        rw [show n + (i + 1) = n + 1 + i by omega] at this
        exact this
      have un : loop g b ((x :: xs).map enc) e0 = loop g b (xs.map enc) e2 := by
        rw [List.map_cons]
        conv => lhs; unfold loop
        cases hg : g (enc x) e0 with
        | none => simp [hg] at h1
        | some e1 =>
          rw [hg, Option.bind_some] at h1
          rw [Option.bind_some]
          cases hb : b e1 with
          | none => simp [hb] at h1
          | some r =>
            rw [hb, Option.bind_some] at h1
            rw [Option.bind_some]
            cases r <;> simp [ctK] at h1 <;> simp [h1]
      refine ⟨fun q => ?_, fun ⟨i, hi, q⟩ => ?_⟩
      · obtain ⟨e, h4, h5⟩ := ih.1 fun i hi => by
          have := q (i + 1) (by simpa using hi)
          rw [show n + (i + 1) = n + 1 + i by omega] at this
          exact this
        exact ⟨e, un.trans h4, by rw [List.length_cons, show n + (xs.length + 1) = n + 1 + xs.length by omega]; exact h5⟩
      · cases i with
        | zero => rw [Nat.add_zero, ho] at q; cases q
        | succ i => exact un.trans (ih.2 ⟨i, by simpa using hi, by rw [show n + 1 + i = n + (i + 1) by omega]; exact q⟩)
theorem loop_ro {α : Type} {g : Gx} {b : Sx} {enc : α → D} {xs : List α} {e0 : DEnv} {o : Option DRes} (hl : loop g b (xs.map enc) e0 = o) (P : Nat → DEnv → Prop) (ok : Nat → Bool) (d : D) (hi : P 0 e0)
    (h : ∀ i x e, xs[i]? = some x → P i e → (ok i = true → ∃ e2, ((g (enc x) e).bind b).bind ctK = some (.nx e2) ∧ P (i + 1) e2) ∧ (ok i = false → (g (enc x) e).bind b = some (.ret d))) :
    ((List.range xs.length).all ok = true → ∃ e, o = some (.nx e) ∧ P xs.length e) ∧ ((List.range xs.length).all ok = false → o = some (.ret d)) := by
  obtain ⟨h1, h2⟩ := loop_ri (g := g) (b := b) (enc := enc) P ok d xs 0 e0 hi fun i x e hx hp => by
    rw [Nat.zero_add] at hp ⊢; exact h i x e hx hp
  simp only [Nat.zero_add] at h1 h2
  rw [hl] at h1 h2
  refine ⟨fun q => h1 fun i hi => List.all_eq_true.mp q i (List.mem_range.mpr hi), fun q => h2 ?_⟩
  rw [List.all_eq_false] at q
  obtain ⟨i, hi, q⟩ := q
  exact ⟨i, List.mem_range.mp hi, by simpa using q⟩
theorem stp {X : Option DRes} {P : DEnv → Prop} {e2 : DEnv} (h1 : X = some (.nx e2)) (h2 : P e2) : ∃ e2, X = some (.nx e2) ∧ P e2 := ⟨e2, h1, h2⟩
abbrev nD (n : Nat) : D := .int (n : Int)
abbrev iD (l : List Int) : D := .tup (l.map .int)
abbrev Poly := List (List Int × Int)
abbrev rowD (r : List Int × Int) : D := .tup [iD r.1, .int r.2]
abbrev pD (f : Poly) : D := .ftup (f.map rowD)
abbrev pT (f : Poly) : D := .tup (f.map rowD)
abbrev dcD (m : Poly) : D := .dic true (m.map fun r => iD r.1) (m.map fun r => .int r.2)
theorem msI {L : List Int} {x : Int} : L.map D.int ++ [D.int x] = (L ++ [x]).map D.int := by simp
theorem msT {L : List (List Int)} {x : List Int} : L.map iD ++ [iD x] = (L ++ [x]).map iD := by simp
theorem maT {L M : List (List Int)} : L.map iD ++ M.map iD = (L ++ M).map iD := by simp
theorem maI {L M : List Int} : L.map D.int ++ M.map D.int = (L ++ M).map D.int := by simp
theorem msP {L : List Poly} {x : Poly} : L.map pD ++ [pD x] = (L ++ [x]).map pD := by simp
theorem maR {L M : Poly} : L.map rowD ++ M.map rowD = (L ++ M).map rowD := by simp
theorem eqvs_ints : ∀ a b : List Int, D.eqvs (a.map D.int) (b.map D.int) = decide (a = b)
  | [], [] => rfl
  | [], _ :: _ => rfl
  | _ :: _, [] => rfl
  | x :: xs, y :: ys => by
    simp only [List.map_cons, D.eqvs, D.eqv, eqvs_ints xs ys]
    by_cases h : x = y <;> by_cases h2 : xs = ys <;> simp [h, h2]
theorem eqv_iD (a b : List Int) : D.eqv (iD a) (iD b) = decide (a = b) := by
  simp only [D.eqv]; exact eqvs_ints a b
theorem plains_all {n : Nat} : ∀ {ds : List D}, (∀ d ∈ ds, d.plain n = true) → D.plains n ds = true
  | [], _ => by simp [D.plains]
  | d :: ds, h => by
    simp only [D.plains, Bool.and_eq_true]
    exact ⟨h d List.mem_cons_self, plains_all fun x hx => h x (List.mem_cons_of_mem _ hx)⟩
theorem plain_iD (l : List Int) : (iD l).plain (n + 1) = true := by
  simp only [D.plain]
  exact plains_all fun d hd => by
    obtain ⟨i, _, rfl⟩ := List.mem_map.mp hd
    simp [D.plain]
theorem plain_pD (f : Poly) : (pD f).plain (n + 3) = true := by
  simp only [D.plain]
  refine plains_all fun d hd => ?_
  obtain ⟨i, _, rfl⟩ := List.mem_map.mp hd
  simp only [D.plain, D.plains, Bool.and_true]
  exact plain_iD i.1 (n := n)
mutual
theorem eqv_refl : ∀ {n : Nat} {d : D}, d.plain n = true → D.eqv d d = true
  | _, .non, _ => rfl
  | _, .bl b, _ => by simp [D.eqv]
  | _, .int _, _ => by simp [D.eqv]
  | _, .str _, _ => by simp [D.eqv]
  | 0, .tup _, h => by simp [D.plain] at h
  | 0, .lst _, h => by simp [D.plain] at h
  | 0, .ftup _, h => by simp [D.plain] at h
  | n + 1, .ftup xs, h => by
    simp only [D.plain] at h
    simp only [D.eqv]
    exact eqvs_refl h
  | n + 1, .tup xs, h => by
    simp only [D.plain] at h
    simp only [D.eqv]
    exact eqvs_refl h
  | n + 1, .lst xs, h => by
    simp only [D.plain] at h
    simp only [D.eqv]
    exact eqvs_refl h
  | _, .dic _ _ _, h => by simp [D.plain] at h
  | _, .ins _ _ _, h => by simp [D.plain] at h
  | _, .scr _, h => by simp [D.plain] at h
theorem eqvs_refl : ∀ {n : Nat} {ds : List D}, D.plains n ds = true → D.eqvs ds ds = true
  | _, [], _ => rfl
  | _, d :: ds, h => by
    simp only [D.plains, Bool.and_eq_true] at h
    simp only [D.eqvs, Bool.and_eq_true]
    exact ⟨eqv_refl h.1, eqvs_refl h.2⟩
end
theorem eqD_refl {d : D} (h : d.plain 60 = true) : eqD d d = some true := by
  simp only [eqD, h, eqv_refl h, Bool.and_self, if_true]
theorem keyD_iD (k : List Int) : keyD true (iD k) = true := by
  simp only [keyD]
  rw [List.all_eq_true]
  intro d hd
  obtain ⟨i, _, rfl⟩ := List.mem_map.mp hd
  rfl
theorem dget_enc : ∀ (m : Poly) (k : List Int), dget (m.map fun r => iD r.1) (m.map fun r => .int r.2) (iD k) = (m.lookup k).map .int
  | [], _ => rfl
  | r :: m, k => by
    simp only [List.map_cons, dget, eqv_iD, dget_enc m k, List.lookup]
    by_cases h : r.1 = k
    · simp [h]
    · have : (k == r.1) = false := by simp; exact fun e => h e.symm
      simp [h, this]
def put (m : Poly) (k : List Int) (v : Int) : Poly := if (m.lookup k).isSome then m.map (fun r => if r.1 = k then (r.1, v) else r) else m ++ [(k, v)]
theorem dupd_enc : ∀ (m : Poly) (k : List Int) (v : Int), dupd (m.map fun r => iD r.1) (m.map fun r => .int r.2) (iD k) (.int v) = (m.map (fun r => if r.1 = k then (r.1, v) else r)).map fun r => .int r.2
  | [], _, _ => rfl
  | r :: m, k, v => by
    simp only [List.map_cons, dupd, eqv_iD, dupd_enc m k v]
    by_cases h : r.1 = k <;> simp [h]
theorem dput_enc (m : Poly) (k : List Int) (v : Int) : dput (m.map fun r => iD r.1) (m.map fun r => .int r.2) (iD k) (.int v) = ((put m k v).map (fun r => iD r.1), (put m k v).map fun r => .int r.2) := by
  simp only [dput, dget_enc, put, Option.isSome_map]
  by_cases h : (m.lookup k).isSome
  · simp only [h, if_true, dupd_enc, List.map_map]
    congr 1
    refine List.map_congr_left fun r _ => ?_
    by_cases h : r.1 = k <;> simp [h]
  · simp [h]
theorem put_keys {m : Poly} {k : List Int} {v : Int} : (put m k v).map (·.1) = if (m.lookup k).isSome then m.map (·.1) else m.map (·.1) ++ [k] := by
  unfold put
  split
  · rw [List.map_map]
    refine List.map_congr_left fun r _ => ?_
    simp only [Function.comp]
    split <;> simp_all
  · simp
theorem put_len {m : Poly} {k : List Int} {v : Int} : (put m k v).length ≤ m.length + 1 := by
  unfold put; split <;> simp
theorem put_mem {m : Poly} {k : List Int} {v : Int} {r} (h : r ∈ put m k v) : r = (k, v) ∨ r ∈ m := by
  unfold put at h
  split at h
  · obtain ⟨q, hq, e⟩ := List.mem_map.mp h
    split at e
    · next h2 => left; rw [← e, h2]
    · right; rw [← e]; exact hq
  · rcases List.mem_append.mp h with h | h
    · exact .inr h
    · left; simpa using h
def putL (a f : Poly) : Poly := f.foldl (fun m r => put m r.1 r.2) a
theorem dcRows_m : ∀ (f a : Poly), dcRows (f.map rowD) (a.map fun r => iD r.1) (a.map fun r => .int r.2) = some ((putL a f).map (fun r => iD r.1), (putL a f).map fun r => .int r.2)
  | [], _ => rfl
  | r :: f, a => by
    rw [List.map_cons]
    unfold dcRows
    rw [if_pos (keyD_iD _), dput_enc, dcRows_m f]; rfl
theorem zipDc_m {ks : List (List Int)} {vs : List Int} (h : ks.length ≤ 16777216) : zipDc [.lst (ks.map iD), .lst (vs.map .int)] = some (dcD (putL [] (ks.zip vs))) := by
  simp only [zipDc]
  rw [if_pos (by simpa [szL] using h), List.zip_map, List.map_map]
  have := dcRows_m (ks.zip vs) []
  simp only [List.map_nil] at this
  have e : (ks.zip vs).map ((fun p : D × D => D.tup [p.1, p.2]) ∘ Prod.map iD D.int) = (ks.zip vs).map rowD := rfl
  rw [e, this]; rfl
theorem stK_m {m : Poly} {k : List Int} {v : Int} (h : m.length < 16777216) : stKK i (.int v) (iD k) e (some (.own (dcD m))) = some (.nx (e.set i (.own (dcD (put m k v))))) := by
  rw [stKK_e, if_pos ⟨keyD_iD k, by simpa [szL] using h, by simp⟩, dput_enc]
theorem getK_m {m : Poly} {k : List Int} : getK (dcD m) (iD k) = (m.lookup k).map .int := by
  simp only [getK, keyD_iD, if_true, dget_enc]
theorem getK2_m {m : Poly} {k : List Int} {v : Int} : getK2 (dcD m) (iD k) (.int v) = some (.int ((m.lookup k).getD v)) := by
  simp only [getK2, keyD_iD, if_true, dget_enc]
  cases m.lookup k <;> rfl
theorem lookup_mem {κ ν : Type} [BEq κ] [LawfulBEq κ] : ∀ {m : List (κ × ν)} {k : κ}, k ∈ m.map (·.1) → ∃ v, m.lookup k = some v ∧ (k, v) ∈ m
  | [], k, h => by simp at h
  | r :: m, k, h => by
    rw [List.lookup]
    by_cases e : k = r.1
    · subst e; exact ⟨r.2, by simp, by simp⟩
    · have h2 : k ∈ m.map (·.1) := by
        rw [List.map_cons] at h
        rcases List.mem_cons.mp h with h | h
        · exact absurd h e
        · exact h
      obtain ⟨v, h3, h4⟩ := lookup_mem h2
      have : (k == r.1) = false := by simpa using e
      rw [this]
      exact ⟨v, h3, List.mem_cons_of_mem _ h4⟩
theorem tupsInts_map : ∀ l : List (List Int), tupsInts (l.map iD) = some l
  | [] => rfl
  | a :: l => by simp [tupsInts, tupInts, intsOf_map, tupsInts_map l]
def Pw (p n : Nat) (k : List Int) : Prop := k.length = n ∧ ∀ x ∈ k, 0 ≤ x ∧ x < (p : Int)
theorem srt_m {m : Poly} (hl : m.length ≤ 16777216) (hk : ∀ r ∈ m, r.1 ≠ []) : ((m.map fun r => iD r.1).length ≤ 16777216) ∧ neB (m.map (·.1)) = true := by
  refine ⟨by simpa using hl, ?_⟩
  unfold neB
  rw [List.all_eq_true]
  intro k h
  obtain ⟨r, hr, rfl⟩ := List.mem_map.mp h
  have := hk r hr
  cases h : r.1 with
  | nil => exact absurd h this
  | cons a l => rfl
theorem sortKL_g {m : Poly} (hl : m.length ≤ 16777216) (hk : ∀ r ∈ m, r.1 ≠ []) : sortKL (dcD m) = some (.lst (((m.map (·.1)).mergeSort lexLe).map iD)) := by
  have e : (m.map fun r => iD r.1) = (m.map (·.1)).map iD := by simp
  simp only [sortKL, e, tupsInts_map, Option.bind_some]
  rw [if_pos ⟨by simpa [szL] using hl, (srt_m hl hk).2⟩]
theorem sortKR_g {m : Poly} (hl : m.length ≤ 16777216) (hk : ∀ r ∈ m, r.1 ≠ []) : sortKR (dcD m) = some (.lst ((((m.map (·.1)).mergeSort lexLe).reverse).map iD)) := by
  have e : (m.map fun r => iD r.1) = (m.map (·.1)).map iD := by simp
  simp only [sortKR, e, tupsInts_map, Option.bind_some]
  rw [if_pos ⟨by simpa [szL] using hl, (srt_m hl hk).2⟩]
theorem Pw.ne {p n : Nat} {k : List Int} (h : Pw p n k) (hn : 1 ≤ n) : k ≠ [] := fun e => by
  have := h.1
  rw [e] at this
  simp at this
  omega
def mk (p : Nat) (m : Poly) : Poly := (((m.map (·.1)).mergeSort lexLe).map fun k => (k, (m.lookup k).getD 0 % (p : Int))).reverse.filter fun r => r.2 ≠ 0
def Pol (p n : Nat) (f : Poly) : Prop := ∀ r ∈ f, Pw p n r.1 ∧ 0 ≤ r.2 ∧ r.2 < (p : Int)
theorem mk_pol {p n : Nat} {m : Poly} (hp : 0 < p) (hk : ∀ r ∈ m, Pw p n r.1) : Pol p n (mk p m) := by
  intro r hr
  unfold mk at hr
  have h1 := (List.mem_filter.mp hr).1
  rw [List.mem_reverse] at h1
  obtain ⟨k, hk2, rfl⟩ := List.mem_map.mp h1
  have h3 : k ∈ m.map (·.1) := (List.mergeSort_perm _ _).mem_iff.mp hk2
  obtain ⟨q, hq, rfl⟩ := List.mem_map.mp h3
  exact ⟨hk q hq, Int.emod_nonneg _ (by omega), Int.emod_lt_of_pos _ (by omega)⟩
theorem mk_len {p : Nat} {m : Poly} : (mk p m).length ≤ m.length := by
  unfold mk
  refine Nat.le_trans (List.length_filter_le _ _) ?_
  simp
theorem cmpOK_iD (a b : List Int) : cmpOK (iD a) (iD b) = true := by
  simp only [cmpOK, plain_iD, D.alk, alks_ints, Bool.and_self]
theorem ltT_iD (a b : List Int) : ltT (iD a) (iD b) = some (!lexLe b a) := by
  simp only [ltT, cmpOK_iD, if_true, D.ltv, ltvs_ints]
theorem slcT_t {xs : List D} {lo hi : Option Int} : slcT lo hi (.tup xs) = some (.tup (cut xs lo hi)) := rfl
theorem cut_map {α : Type} (f : α → D) (l : List α) (lo hi : Option Int) : cut (l.map f) lo hi = (cut l lo hi).map f := by
  simp only [cut, List.length_map, List.map_take, List.map_drop]
theorem emod_nat (a : Int) {m : Nat} (h : 0 < m) : ∃ t : Nat, a % (m : Int) = t ∧ t < m := by
  have h1 := Int.emod_nonneg a (show (m : Int) ≠ 0 by omega)
  have h2 := Int.emod_lt_of_pos a (show (0 : Int) < (m : Int) by omega)
  exact ⟨(a % (m : Int)).toNat, by omega, by omega⟩
end PV

namespace PV
open PySem
local macro_rules | `(tactic| simp_arith [$args,*] $[$loc]?) => `(tactic| simp -implicitDefEqProofs (disch := first | omega | (simp only [List.length_map, List.length_cons, List.length_nil, List.length_append, List.length_range, List.length_replicate]; omega)) only [sq_e, sqK_nx, sqK_ret, sqK_bk, sqK_ct, skip_e, setE_e, newE_e, rt_e, brk_e, cnt_e, ifS_e, ifK_t, ifK_f, ifX_t, ifX_f, ifT_t, ifT_f, fncK_ret, fncK_nx, ctK_nx, ctK_ct, ctK_ret, lcK_e, lstK_e, tupK_e, tupK_f, tupK_cat, ftupD_lst, ftupE_e, lenD_f, getD_f, addD_ff, blK_e, ovK_e, vaK_e, ife_e, var_e, ovar_e, cst_e, op1_e, op2_e, op3_e, aN_e, aC_e, tupE_e, lstE_e, cal_e, f1_e, cmp_e, flip_e, neg_e, chn_e, boo_e, tes_e, ff_e, tt_e, andT_e, orT_e, notT_e, fX_e, tX_e, andV_e, orV_e, notV_e, isN_e, yes_e, asg_e, gD_n, gD_t, gDs_n, gDs_c, frz_e, mov_e, movO_e, forE_e, iLst_e, iTp_e, iRng_e, one1_c, two2_c, iZp_e, lcE_e, lc2E_e, wip_n, wip_c, noOwn_n, noOwn_c, noO_no, noO_val, fnc_e, ini_e, met_e, fld_e, slE_e, prK_e, prt_e, prN_e, dic1_e, appK_e, app_e, extK_e, ext_e, stK_e, drpA_e, drpK_e, addD_int, addD_tup, addD_lst, subD_int, mulD_l, mulD_r, modD_int, divD_int, intD_int, intD_bl, ltD_int, leD_int, eqD_int, eqD_bl, lenD_lst, lenD_tup, lenD_scr, tupD_lst, listD_lst, listD_tup, revL_lst, isBool_bl, max2_int, isBD_bl, revT_tup, iEnum_e, iItm_e, iSq_e, isC_i, isLst_l, addI_int, subI_int, iZm_e, seqK_t, seqK_l, dcE_e, getD_l, getD_t, getD_s, rngL_n, rngL_i, rngL_2, sumL_ints, sumT_tup, sumT_lst, allL_bls, anyL_bls, lcT_t, lcT_f, set_0, set_s, szL_le, szL_lt, Option.bind_some, Option.map_some, List.map_cons, List.map_nil, List.length_cons, List.length_nil, List.length_map, List.length_range, List.getElem?_cons_zero, List.getElem?_cons_succ, List.getElem?_map, List.replicate_succ, List.replicate_zero, List.cons_append, List.nil_append, if_true, if_false, ite_true, ite_false, Bool.and_true, Bool.true_and, Bool.and_self, and_true, true_and, and_self, decide_true, decide_false, Bool.not_true, Bool.not_false, eq_self, Int.toNat_natCast, Int.toNat_zero, Nat.reduceAdd, Nat.reduceSub, Nat.reduceLeDiff, Nat.reduceMul, Nat.reduceEqDiff, Int.reduceToNat, Nat.zero_add, Nat.reduceLT, Int.reduceLT, Int.reduceLE, Int.reduceEq, Int.reduceNe, Int.reduceMul, Int.reduceAdd, Int.reducePow, Bool.false_eq_true, reduceCtorEq, not_true_eq_false, not_false_eq_true, ne_eq, Option.getD_some, if_pos, List.length_append, List.length_replicate, msI, maI, msT, maT, msP, maR, $args,*] $[$loc]?)
theorem cell_eq (ns : List Int) (k : Nat) : F__law_cell [.scr ns, .int k] = some (.int (ns.getD k 0)) := by
  unfold F__law_cell
  by_cases h : k < ns.length
  · have h1 : ns[k]? = some ns[k] := List.getElem?_eq_getElem h
    have h2 : ((k : Int) < (ns.length : Int)) := by omega
    simp_arith [h2, h1]
    simp [h]
  · have h1 : ns[k]? = none := List.getElem?_eq_none (by omega)
    have h2 : ¬ ((k : Int) < (ns.length : Int)) := by omega
    simp_arith [h2]
    simp [h1]
def shapes : List (Nat × Nat) := [(2, 1), (2, 2), (2, 3), (3, 1), (3, 2), (5, 1), (2, 4), (3, 3), (7, 1), (5, 2), (2, 5), (7, 2)]
def Sh (p n : Nat) : Prop := (p, n) ∈ shapes
theorem shape_eq (c : Int) : ∃ p n, Sh p n ∧ F__law_shape [.int c] = some (.tup [nD p, nD n]) := by
  have h0 : 0 ≤ c % 12 := Int.emod_nonneg _ (by omega)
  have h1 : c % 12 < 12 := Int.emod_lt_of_pos _ (by omega)
  obtain ⟨i, hi⟩ : ∃ i : Nat, c % 12 = i := ⟨(c % 12).toNat, by omega⟩
  have h2 : i < 12 := by omega
  refine ⟨shapes[i].1, shapes[i].2, List.getElem_mem h2, ?_⟩
  unfold F__law_shape
  simp_arith [hi]
  have : i = 0 ∨ i = 1 ∨ i = 2 ∨ i = 3 ∨ i = 4 ∨ i = 5 ∨ i = 6 ∨ i = 7 ∨ i = 8 ∨ i = 9 ∨ i = 10 ∨ i = 11 := by omega
  rcases this with rfl | rfl | rfl | rfl | rfl | rfl | rfl | rfl | rfl | rfl | rfl | rfl <;> rfl
theorem Sh.bd {p n : Nat} (h : Sh p n) : 2 ≤ p ∧ p ≤ 7 ∧ 1 ≤ n ∧ n ≤ 5 := by
  have : ∀ s ∈ shapes, 2 ≤ s.1 ∧ s.1 ≤ 7 ∧ 1 ≤ s.2 ∧ s.2 ≤ 5 := by decide
  exact this _ h
theorem digits_eq (c m : Int) (n : Nat) (hm : 1 ≤ m ∧ m ≤ 100000) (hn : n ≤ 1000) : ∃ L : List Int, F__law_digits [.int c, D.int m, nD n] = some (.lst (L.map .int)) ∧ L.length = n ∧ ∀ d ∈ L, 0 ≤ d ∧ d < m := by
  unfold F__law_digits
  simp_arith []
  have key : ∀ x : Int, 0 ≤ x % m ∧ x % m < m := fun x => ⟨Int.emod_nonneg _ (by omega), Int.emod_lt_of_pos _ (by omega)⟩
  generalize hl : loop _ _ _ _ = o
  obtain ⟨e, rfl, L, r, s5, s6, rfl, hL, hb⟩ := loop_o hl (fun i e => ∃ (L : List Int) (r : Int) (s5 s6 : DSlot), e = [.val (.int c), .val (.int m), .val (nD n), .own (.lst (L.map .int)), .val (.int r), s5, s6] ∧ L.length = i ∧ ∀ d ∈ L, 0 ≤ d ∧ d < m)
    ⟨[], c, .no, .no, rfl, rfl, by simp⟩ (by
      rintro i k e hk ⟨L, r, s5, s6, rfl, hL, hb⟩
      have hi : i < n := by
        have := (List.getElem?_eq_some_iff.mp hk).1
        simpa using this
      have app : ∀ x : Int, ∀ d ∈ L ++ [x % m], 0 ≤ d ∧ d < m := fun x d hd => by
        rcases List.mem_append.mp hd with h | h
        · exact hb d h
        · rw [List.mem_singleton.mp h]; exact key x
      by_cases hc : (1000000000000000000 : Int) ≤ c
      · refine stp (by simp_arith [hc, powD_18, msI]; rfl) ?_
        exact ⟨_, _, _, _, rfl, by simp [hL], app r⟩
      · have h1 : (1000000000000000000 : Int) ≤ c ↔ False := iff_false_intro hc
        refine stp (by simp_arith [h1, powD_18, msI]; rfl) ?_
        exact ⟨_, _, _, _, rfl, by simp [hL], app _⟩)
  exact ⟨L, by simp_arith [], by simpa using hL, hb⟩

def grow (p : Nat) (l : List (List Int)) : List (List Int) := l.flatMap fun r => (List.range p).map fun k : Nat => r ++ [(k : Int)]
def pts (p : Nat) : Nat → List (List Int)
  | 0 => [[]]
  | n + 1 => grow p (pts p n)
theorem pts_pw {p : Nat} : ∀ {n : Nat}, ∀ r ∈ pts p n, Pw p n r
  | 0, r, h => by
    simp [pts] at h; subst h; exact ⟨rfl, by simp⟩
  | n + 1, r, h => by
    obtain ⟨q, hq, h2⟩ := List.mem_flatMap.mp h
    obtain ⟨k, hk, rfl⟩ := List.mem_map.mp h2
    have h3 := pts_pw q hq
    refine ⟨by simp [h3.1], fun x hx => ?_⟩
    rcases List.mem_append.mp hx with h | h
    · exact h3.2 x h
    · rw [List.mem_singleton.mp h]
      have := List.mem_range.mp hk
      omega
theorem grow_len {p : Nat} : ∀ l : List (List Int), (grow p l).length = l.length * p
  | [] => by simp [grow]
  | a :: l => by
    have := grow_len (p := p) l
    unfold grow at this ⊢
    rw [List.flatMap_cons, List.length_append, this, List.length_map, List.length_range, List.length_cons, Nat.add_mul]; omega
theorem grow_app {p : Nat} (l m : List (List Int)) : grow p (l ++ m) = grow p l ++ grow p m := by simp [grow]
theorem pts_len {p : Nat} : ∀ n : Nat, (pts p n).length = p ^ n
  | 0 => rfl
  | n + 1 => by rw [pts, grow_len, pts_len n, Nat.pow_succ]
theorem pts_sz {p n : Nat} (h : Sh p n) : ∀ m ≤ n, (pts p m).length ≤ 16807 := by
  intro m hm
  have h2 := h.bd
  rw [pts_len]
  calc p ^ m ≤ 7 ^ m := Nat.pow_le_pow_left (by omega) _
    _ ≤ 7 ^ 5 := Nat.pow_le_pow_right (by omega) (by omega)
    _ ≤ 16807 := by decide

def menu : List Str := ["x", "y", "z", "x1", "b", "word", "k9", "verylongname"]
def nms (a b n : Nat) : List Str := (List.range n).map fun k => menu.getD ((a + b * k) % 8) ""
theorem getD_1357 {b : Nat} (h : b < 4) : getD (.lst [.int 1, .int 3, .int 5, .int 7]) (.int b) = some (nD ([1, 3, 5, 7].getD b 0)) := by
  have : b = 0 ∨ b = 1 ∨ b = 2 ∨ b = 3 := by omega
  rcases this with rfl | rfl | rfl | rfl <;> rfl
theorem names_eq (c : Int) (n : Nat) (hn : n < 1000) : ∃ a b, a < 8 ∧ b < 4 ∧ F__law_names [.int c, nD n] = some (.lst ((nms a ([1, 3, 5, 7].getD b 0) n).map .str)) := by
  have h0 : 0 ≤ c % 8 := Int.emod_nonneg _ (by omega)
  have h1 : c % 8 < 8 := Int.emod_lt_of_pos _ (by omega)
  obtain ⟨a, ha⟩ : ∃ a : Nat, c % 8 = a := ⟨(c % 8).toNat, by omega⟩
  have h2 : 0 ≤ (c / 8) % 4 := Int.emod_nonneg _ (by omega)
  have h3 : (c / 8) % 4 < 4 := Int.emod_lt_of_pos _ (by omega)
  obtain ⟨b, hb⟩ : ∃ b : Nat, (c / 8) % 4 = b := ⟨((c / 8) % 4).toNat, by omega⟩
  have hb4 : b < 4 := by omega
  refine ⟨a, b, by omega, hb4, ?_⟩
  unfold F__law_names
  have hst : [1, 3, 5, 7].getD b 0 < 8 := by
    have : b = 0 ∨ b = 1 ∨ b = 2 ∨ b = 3 := by omega
    rcases this with rfl | rfl | rfl | rfl <;> decide
  have hg := getD_1357 hb4
  generalize [1, 3, 5, 7].getD b 0 = st at hst hg ⊢
  have e1 : lcRun (gD (.n 5)) yes (op2 getD (var 2) (op2 modD (cal (f1 intD) (aC (op2 addD (var 3) (op2 mulD (var 4) (var 5))) aN)) (cst (.int 8)))) [.val (.int c), .val (nD n), .val (.lst (menu.map .str)), .val (nD a), .val (nD st), .no] ((List.range n).map fun (k : Nat) => D.int (k : Int)) = some ((nms a st n).map .str) :=
    lcRun_m (fun k => menu.getD ((a + st * k) % 8) "") fun k hk => by
      have e : ((a : Int) + st * (k : Int)) % 8 = (((a + st * k) % 8 : Nat) : Int) := by push_cast; rfl
      have hl : (a + st * k) % 8 < menu.length := Nat.mod_lt _ (by decide)
      simp_arith [e]
      rw [List.getElem?_eq_getElem hl]
      simp [List.getD, List.getElem?_eq_getElem hl]
  simp only [menu, List.map_cons, List.map_nil] at e1
  simp -implicitDefEqProofs (disch := first | omega | (simp only [List.length_map, List.length_cons, List.length_nil, List.length_append, List.length_range, List.length_replicate]; omega)) only [sq_e, sqK_nx, sqK_ret, sqK_bk, sqK_ct, skip_e, setE_e, newE_e, rt_e, brk_e, cnt_e, ifS_e, ifK_t, ifK_f, ifX_t, ifX_f, ifT_t, ifT_f, fncK_ret, fncK_nx, ctK_nx, ctK_ct, ctK_ret, lcK_e, lstK_e, tupK_e, tupK_f, tupK_cat, ftupD_lst, ftupE_e, lenD_f, getD_f, addD_ff, blK_e, ovK_e, vaK_e, ife_e, var_e, ovar_e, cst_e, op1_e, op2_e, op3_e, aN_e, aC_e, tupE_e, lstE_e, cal_e, f1_e, cmp_e, flip_e, neg_e, chn_e, boo_e, tes_e, ff_e, tt_e, andT_e, orT_e, notT_e, fX_e, tX_e, andV_e, orV_e, notV_e, isN_e, yes_e, asg_e, gD_n, gD_t, gDs_n, gDs_c, frz_e, mov_e, movO_e, forE_e, iLst_e, iTp_e, iRng_e, one1_c, two2_c, iZp_e, lcE_e, lc2E_e, wip_n, wip_c, noOwn_n, noOwn_c, noO_no, noO_val, fnc_e, ini_e, met_e, fld_e, slE_e, prK_e, prt_e, prN_e, dic1_e, appK_e, app_e, extK_e, ext_e, stK_e, drpA_e, drpK_e, addD_int, addD_tup, addD_lst, subD_int, mulD_l, mulD_r, modD_int, divD_int, intD_int, intD_bl, ltD_int, leD_int, eqD_int, eqD_bl, lenD_lst, lenD_tup, lenD_scr, tupD_lst, listD_lst, listD_tup, revL_lst, isBool_bl, max2_int, isBD_bl, revT_tup, iEnum_e, iItm_e, iSq_e, isC_i, isLst_l, addI_int, subI_int, iZm_e, seqK_t, seqK_l, dcE_e, getD_t, getD_s, rngL_n, rngL_i, rngL_2, sumL_ints, sumT_tup, sumT_lst, allL_bls, anyL_bls, lcT_t, lcT_f, set_0, set_s, szL_le, szL_lt, Option.bind_some, Option.map_some, List.map_cons, List.map_nil, List.length_cons, List.length_nil, List.length_map, List.length_range, List.getElem?_cons_zero, List.getElem?_cons_succ, List.getElem?_map, List.replicate_succ, List.replicate_zero, List.cons_append, List.nil_append, if_true, if_false, ite_true, ite_false, Bool.and_true, Bool.true_and, Bool.and_self, and_true, true_and, and_self, decide_true, decide_false, Bool.not_true, Bool.not_false, eq_self, Int.toNat_natCast, Int.toNat_zero, Nat.reduceAdd, Nat.reduceSub, Nat.reduceLeDiff, Nat.reduceMul, Nat.reduceEqDiff, Int.reduceToNat, Nat.zero_add, Nat.reduceLT, Int.reduceLT, Int.reduceLE, Int.reduceEq, Int.reduceNe, Int.reduceMul, Int.reduceAdd, Int.reducePow, Bool.false_eq_true, reduceCtorEq, not_true_eq_false, not_false_eq_true, ne_eq, Option.getD_some, if_pos, List.length_append, List.length_replicate, msI, maI, msT, maT, msP, maR, ha, hb, hg, e1]
def inCK (n : Bool) (ds : List D) : D → Option Bool
  | .int i => some (n != ds.any fun z => D.eqv z (.int i))
  | _ => none
theorem inC_e {a : Ex} {e} : inC n ds a e = (a e).bind (inCK n ds) := by unfold inC; congr
def setFK (c f : Str) (d : D) (i : Nat) (e : DEnv) : Option DSlot → Option DRes
  | some (.slf (.ins c' fs xs)) => if c' = c ∧ fs.length < 1000 ∧ fs.length = xs.length then some (.nx (e.set i (.slf (.ins c' (putFD f d fs xs).1 (putFD f d fs xs).2)))) else none
  | _ => none
theorem setF_e {a : Ex} {e : DEnv} : setF i c f a e = (a e).bind fun d => setFK c f d i e e[i]? := by unfold setF; congr
theorem setFK_e : setFK c f d i e (some (.slf (.ins c fs xs))) = if c = c ∧ fs.length < 1000 ∧ fs.length = xs.length then some (.nx (e.set i (.slf (.ins c (putFD f d fs xs).1 (putFD f d fs xs).2)))) else none := rfl
theorem putF_n : putFD f d [] [] = ([f], [d]) := rfl
theorem putF_c (h : g ≠ f) : putFD f d (g :: gs) (x :: xs) = (g :: (putFD f d gs xs).1, x :: (putFD f d gs xs).2) := by
  rw [putFD]; exact if_neg h
theorem iniK_ok {e} : iniK c (.nx (.slf (.ins c fs xs) :: e)) = some (.ins c fs xs) := by simp [iniK]
def spcD (p : Nat) (ns : List Str) : D := .ins "Space" ["prime", "names", "count"] [nD p, .lst (ns.map .str), nD ns.length]
theorem sp_prime {p : Nat} {ns} : attr ["Space"] "prime" (spcD p ns) = some (nD p) := by
  simp only [attr, spcD]; rw [if_pos (by decide)]; rfl
theorem sp_names {p : Nat} {ns} : attr ["Space"] "names" (spcD p ns) = some (.lst (ns.map .str)) := by
  simp only [attr, spcD]; rw [if_pos (by decide)]; rfl
theorem sp_count {p : Nat} {ns} : attr ["Space"] "count" (spcD p ns) = some (nD ns.length) := by
  simp only [attr, spcD]; rw [if_pos (by decide)]; rfl
theorem space_eq {p : Nat} {ns : List Str} (hp : p = 2 ∨ p = 3 ∨ p = 5 ∨ p = 7) (hn : 1 ≤ ns.length ∧ ns.length ≤ 8) (hv : ∀ x ∈ ns, F_is_name [.str x] = some (.bl true))
    (hd : lenSet (.lst (ns.map .str)) = some (nD ns.length)) (hm : ∃ m, look [(2, 8), (3, 5), (5, 3), (7, 2)] p = some m ∧ ns.length ≤ m) : F_Space___init__ [nD p, .lst (ns.map .str)] = some (spcD p ns) := by
  have e1 : inCK true [.int 2, .int 3, .int 5, .int 7] (nD p) = some false := by
    rcases hp with rfl | rfl | rfl | rfl <;> rfl
  have e2 : lcRun (gD (.n 3)) yes (cal F_is_name (aC (var 3) aN)) [.slf (.ins "Space" [] []), .val (nD p), .val (.lst (ns.map .str)), .no] (ns.map .str) = some ((ns.map fun _ => true).map D.bl) :=
    lcRun_m (fun _ => true) fun x hx => by
      have h1 := hv x hx
      simp_arith [h1]
  obtain ⟨m, h3, h4⟩ := hm
  have e3 : tabI [(2, 8), (3, 5), (5, 3), (7, 2)] (nD p) = some (.int m) := by
    simp only [tabI, h3, Option.map_some]
  have h5 : ((m : Int) < (ns.length : Int)) ↔ False := iff_false_intro (by omega)
  have h6 : ((ns.length : Int) < (ns.length : Int)) ↔ False := iff_false_intro (by omega)
  have h7 : (1 : Int) ≤ (ns.length : Int) := by omega
  have h8 : (ns.length : Int) ≤ 8 := by omega
  have e4 : (ns.map fun _ => true).all id = true := by simp
  have n1 : ("prime" : Str) ≠ "names" := by decide
  have n2 : ("prime" : Str) ≠ "count" := by decide
  have n3 : ("names" : Str) ≠ "count" := by decide
  unfold F_Space___init__
  simp_arith [inC_e, e1, h7, h8, e2, e4, hd, h6, e3, h5, setF_e, setFK_e, putF_n, putF_c n1, putF_c n2, putF_c n3, iniK_ok]
  rfl
theorem names_ok : ∀ x ∈ menu, F_is_name [.str x] = some (.bl true) := by
  intro x hx
  simp only [menu, List.mem_cons, List.not_mem_nil, or_false] at hx
  rcases hx with rfl | rfl | rfl | rfl | rfl | rfl | rfl | rfl <;> rfl
theorem strsOf_map : ∀ l : List Str, strsOf (l.map .str) = some l
  | [] => rfl
  | a :: l => by simp [strsOf, strsOf_map l]
theorem names_dst : ∀ a < 8, ∀ b < 4, ∀ n < 6, (dst (nms a ([1, 3, 5, 7].getD b 0) n)).length = n := by decide
theorem nms_len : (nms a b n).length = n := by simp [nms]
theorem nms_mem : ∀ x ∈ nms a b n, x ∈ menu := by
  intro x hx
  obtain ⟨k, _, rfl⟩ := List.mem_map.mp hx
  have h : (a + b * k) % 8 < menu.length := Nat.mod_lt _ (by decide)
  rw [List.getD, List.getElem?_eq_getElem h]
  exact List.getElem_mem h
theorem Sh.most {p n : Nat} (h : Sh p n) : (p = 2 ∨ p = 3 ∨ p = 5 ∨ p = 7) ∧ ∃ m, look [(2, 8), (3, 5), (5, 3), (7, 2)] p = some m ∧ n ≤ m := by
  have : ∀ s ∈ shapes, (s.1 = 2 ∨ s.1 = 3 ∨ s.1 = 5 ∨ s.1 = 7) ∧ ∃ m ∈ [8, 5, 3, 2], look [(2, 8), (3, 5), (5, 3), (7, 2)] s.1 = some m ∧ s.2 ≤ m := by decide
  obtain ⟨h1, m, _, h2⟩ := this _ h
  exact ⟨h1, m, h2⟩
theorem space_made {p n : Nat} (h : Sh p n) (ha : a < 8) (hb : b < 4) : F_Space___init__ [nD p, .lst ((nms a ([1, 3, 5, 7].getD b 0) n).map .str)] = some (spcD p (nms a ([1, 3, 5, 7].getD b 0) n)) := by
  obtain ⟨h1, m, h2, h3⟩ := h.most
  have h4 := h.bd
  have hl : (nms a ([1, 3, 5, 7].getD b 0) n).length = n := nms_len
  refine space_eq h1 (by omega) (fun x hx => names_ok x (nms_mem x hx)) ?_ ⟨m, h2, by omega⟩
  simp only [lenSet, strsOf_map, Option.bind_some]
  rw [if_pos (by omega), names_dst a ha b hb n (by omega), hl]

theorem made_g {p : Nat} {m : Poly} (hp : 1 ≤ p) (hl : m.length ≤ 100000) (hk : ∀ r ∈ m, r.1 ≠ []) : F__law_made [nD p, dcD m] = some (pD (mk p m)) := by
  have e0 := sortKL_g (by omega) hk
  generalize hK : (m.map (·.1)).mergeSort lexLe = K at e0
  have hKl : K.length = m.length := by rw [← hK]; simp
  have hKm : ∀ k ∈ K, k ∈ m.map (·.1) := fun k h => by
    rw [← hK] at h; exact (List.mergeSort_perm _ _).mem_iff.mp h
  have e1 : lcRun (gD (.n 3)) yes (tupE (aC (var 3) (aC (op2 modD (cal (f1 intD) (aC (op2 getK (var 1) (var 3)) aN)) (var 0)) aN))) [.val (nD p), .val (dcD m), .no, .no, .no] (K.map iD) = some ((K.map fun k => (k, (m.lookup k).getD 0 % (p : Int))).map rowD) :=
    lcRun_m (fun k => (k, (m.lookup k).getD 0 % (p : Int))) fun k hk => by
      obtain ⟨v, h1, _⟩ := lookup_mem (hKm k hk)
      simp_arith [getK_m, h1]
  have e2 : lcRun (gD (.n 4)) (cmp (neg eqD) (op2 getD (var 4) (cst (.int 1))) (cst (.int 0))) (var 4) [.val (nD p), .val (dcD m), .val (.lst ((K.map fun k => (k, (m.lookup k).getD 0 % (p : Int))).map rowD)), .no, .no] ((K.map fun k => (k, (m.lookup k).getD 0 % (p : Int))).reverse.map rowD) = some ((((K.map fun k => (k, (m.lookup k).getD 0 % (p : Int))).reverse.filter fun r => r.2 ≠ 0).map id).map rowD) :=
    lcRun_f (enc := rowD) (enc' := rowD) (fun r : List Int × Int => decide (r.2 ≠ 0)) id fun r hr => by
      by_cases h : r.2 = 0
      · simp_arith [h]
      · have h2 : r.2 = 0 ↔ False := iff_false_intro h
        simp_arith [h2, id]
  have e3 : ((K.map fun k => (k, (m.lookup k).getD 0 % (p : Int))).map rowD).reverse = ((K.map fun k => (k, (m.lookup k).getD 0 % (p : Int))).reverse).map rowD := by rw [List.map_reverse]
  unfold F__law_made
  simp_arith [e0, e1, e3, e2, List.length_reverse, List.map_id]
  unfold mk
  rw [hK]
theorem made_eq {p n : Nat} {m : Poly} (hp : 1 ≤ p ∧ p ≤ 1000) (hn : 1 ≤ n) (hl : m.length < 64) (hk : ∀ r ∈ m, Pw p n r.1) : F__law_made [nD p, dcD m] = some (pD (mk p m)) :=
  made_g hp.1 (by omega) fun r hr => (hk r hr).ne hn

theorem modmul (a b n : Int) : a % n * b % n = a * b % n := by rw [Int.mul_emod, Int.emod_emod, ← Int.mul_emod]
theorem mulmod (a b n : Int) : a * (b % n) % n = a * b % n := by rw [Int.mul_emod, Int.emod_emod, ← Int.mul_emod]
theorem emod_bd (a : Int) {p : Nat} (hp : 2 ≤ p ∧ p ≤ 1000) : 0 ≤ a % (p : Int) ∧ a % (p : Int) < 1000 := by
  have h1 := Int.emod_nonneg a (show (p : Int) ≠ 0 by omega)
  have h2 := Int.emod_lt_of_pos a (show (0 : Int) < p by omega)
  omega
theorem one_mod {p : Nat} (hp : 2 ≤ p) : (1 : Int) % (p : Int) = 1 := Int.emod_eq_of_lt (by omega) (by omega)
def monL (l : List (Int × Int)) : Int := l.foldl (fun a q => a * q.2 ^ q.1.toNat) 1
theorem monL_snoc : monL (l ++ [q]) = monL l * q.2 ^ q.1.toNat := by simp [monL]
def mon (pw pt : List Int) : Int := monL (pw.zip pt)
def val (p : Nat) (f : Poly) (pt : List Int) : Int := (f.map fun r => r.2 * (mon r.1 pt % (p : Int))).sum % (p : Int)

theorem imm_int : D.imm (.int i) = true := by simp [D.imm]
def addM (l : Poly) : Poly := l.foldl (fun m r => put m r.1 ((m.lookup r.1).getD 0 + r.2)) []
theorem addM_snoc : addM (l ++ [r]) = put (addM l) r.1 (((addM l).lookup r.1).getD 0 + r.2) := by simp [addM]
theorem snoc_ind {α : Type} {P : List α → Prop} (h0 : P []) (h1 : ∀ l x, P l → P (l ++ [x])) (l : List α) : P l := by
  have : ∀ l : List α, P l.reverse := fun l => by
    induction l with
    | nil => exact h0
    | cons a l ih => rw [List.reverse_cons]; exact h1 _ _ ih
  have h := this l.reverse
  rw [List.reverse_reverse] at h
  exact h
theorem addM_len (l : Poly) : (addM l).length ≤ l.length := by
  induction l using snoc_ind with
  | h0 => simp [addM]
  | h1 l x ih => rw [addM_snoc, List.length_append]; exact Nat.le_trans put_len (by simpa using ih)
theorem addM_key {P : List Int → Prop} (l : Poly) (h : ∀ r ∈ l, P r.1) : ∀ r ∈ addM l, P r.1 := by
  induction l using snoc_ind with
  | h0 => simp [addM]
  | h1 l x ih =>
    intro r hr
    rw [addM_snoc] at hr
    rcases put_mem hr with rfl | hr
    · exact h x (by simp)
    · exact ih (fun r hr => h r (by simp [hr])) r hr
theorem addM_pw {p n : Nat} (l : Poly) (h : ∀ r ∈ l, Pw p n r.1) : ∀ r ∈ addM l, Pw p n r.1 := addM_key l h
theorem Pol.pw {p n : Nat} {f : Poly} (h : Pol p n f) : ∀ r ∈ f, Pw p n r.1 := fun r hr => (h r hr).1
theorem Pol.app {p n : Nat} {f g : Poly} (h : Pol p n f) (h2 : Pol p n g) : Pol p n (f ++ g) := fun r hr => by
  rcases List.mem_append.mp hr with hr | hr
  · exact h r hr
  · exact h2 r hr

theorem em_add {a b c d n : Int} (h1 : a % n = b % n) (h2 : c % n = d % n) : (a + c) % n = (b + d) % n := by rw [Int.add_emod, h1, h2, ← Int.add_emod]
theorem em_mul {a b c d n : Int} (h1 : a % n = b % n) (h2 : c % n = d % n) : (a * c) % n = (b * d) % n := by rw [Int.mul_emod, h1, h2, ← Int.mul_emod]
def ws (W : List Int → Int) (f : Poly) : Int := (f.map fun r => r.2 * W r.1).sum
theorem ws_nil {W} : ws W [] = 0 := rfl
theorem ws_cons {W r f} : ws W (r :: f) = r.2 * W r.1 + ws W f := by simp [ws]
theorem ws_app {W f g} : ws W (f ++ g) = ws W f + ws W g := by simp [ws]
theorem ws_perm {W} {f g : Poly} (h : f.Perm g) : ws W f = ws W g := by
  induction h with
  | nil => rfl
  | cons x _ ih => rw [ws_cons, ws_cons, ih]
  | swap x y l => simp only [ws_cons]; omega
  | trans _ _ h1 h2 => rw [h1, h2]
theorem ws_rev {W} {f : Poly} : ws W f.reverse = ws W f := ws_perm (List.reverse_perm f)
theorem ws_nz {W} : ∀ {f : Poly}, ws W (f.filter fun r => r.2 ≠ 0) = ws W f
  | [] => rfl
  | r :: f => by
    rw [List.filter_cons]
    by_cases h : r.2 = 0
    · rw [if_neg (by simp [h]), ws_nz, ws_cons, h]; omega
    · rw [if_pos (by simp [h]), ws_cons, ws_cons, ws_nz]
def NK (m : Poly) : Prop := (m.map (·.1)).Nodup
theorem NK.cons {r : List Int × Int} {m : Poly} : NK (r :: m) ↔ r.1 ∉ m.map (·.1) ∧ NK m := by
  unfold NK; rw [List.map_cons, List.nodup_cons]
theorem look_none {m : Poly} {k : List Int} : m.lookup k = none ↔ k ∉ m.map (·.1) := by
  induction m with
  | nil => simp
  | cons r m ih =>
    rw [List.lookup]
    by_cases e : k = r.1
    · subst e; simp
    · have : (k == r.1) = false := by simpa using e
      rw [this]
      simp only [List.map_cons, List.mem_cons, not_or]
      exact ⟨fun h => ⟨e, ih.mp h⟩, fun h => ih.mpr h.2⟩
theorem put_nk {m : Poly} {k : List Int} {v : Int} (h : NK m) : NK (put m k v) := by
  unfold NK; rw [put_keys]
  split
  · exact h
  · rename_i z
    have z : m.lookup k = none := Option.not_isSome_iff_eq_none.mp z
    rw [List.nodup_append]
    refine ⟨h, by simp, ?_⟩
    intro a ha b hb e
    rw [List.mem_singleton] at hb
    subst hb; subst e
    exact look_none.mp z ha
theorem look_own {m : Poly} (h : NK m) : ∀ r ∈ m, m.lookup r.1 = some r.2 := by
  induction m with
  | nil => intro r hr; simp at hr
  | cons q m ih =>
    obtain ⟨h1, h2⟩ := NK.cons.mp h
    intro r hr
    rw [List.lookup]
    by_cases e : r.1 = q.1
    · have : (r.1 == q.1) = true := by simpa using e
      rw [this]
      rcases List.mem_cons.mp hr with rfl | hr
      · rfl
      · exact absurd (e ▸ List.mem_map_of_mem hr) h1
    · have : (r.1 == q.1) = false := by simpa using e
      rw [this]
      rcases List.mem_cons.mp hr with rfl | hr
      · exact absurd rfl e
      · exact ih h2 r hr
theorem ws_upd {W} {k : List Int} {v : Int} : ∀ {m : Poly}, NK m → k ∈ m.map (·.1) → ws W (m.map fun r => if r.1 = k then (r.1, v) else r) = ws W m + (v - (m.lookup k).getD 0) * W k
  | [], _, h => by simp at h
  | r :: m, h, hk => by
    obtain ⟨h1, h2⟩ := NK.cons.mp h
    rw [List.map_cons, ws_cons, ws_cons, List.lookup]
    by_cases e : r.1 = k
    · have e2 : (k == r.1) = true := by simpa using e.symm
      have e3 : m.map (fun r => if r.1 = k then (r.1, v) else r) = m := by
        conv => rhs; rw [← List.map_id m]
        refine List.map_congr_left fun q hq => ?_
        rw [if_neg (fun z => h1 (by rw [e, ← z]; exact List.mem_map_of_mem hq))]; rfl
      rw [e3, e2, if_pos e]
      simp only [Option.getD_some, e, Int.sub_mul]; omega
    · have e2 : (k == r.1) = false := by simpa using fun z : k = r.1 => e z.symm
      have hk2 : k ∈ m.map (·.1) := by
        rw [List.map_cons] at hk
        rcases List.mem_cons.mp hk with z | z
        · exact absurd z.symm e
        · exact z
      rw [if_neg e, e2, ws_upd h2 hk2]; simp only []; omega
theorem ws_put {W} {k : List Int} {v : Int} {m : Poly} (h : NK m) : ws W (put m k v) = ws W m + (v - (m.lookup k).getD 0) * W k := by
  unfold put
  split
  · rename_i z
    exact ws_upd h (by
      by_cases q : k ∈ m.map (·.1)
      · exact q
      · rw [look_none.mpr q] at z; simp at z)
  · rename_i z
    have z : m.lookup k = none := Option.not_isSome_iff_eq_none.mp z
    rw [ws_app, z, ws_cons, ws_nil]; simp
theorem addM_nk (l : Poly) : NK (addM l) := by
  induction l using snoc_ind with
  | h0 => simp [addM, NK]
  | h1 l x ih => rw [addM_snoc]; exact put_nk ih
theorem ws_addM {W} (l : Poly) : ws W (addM l) = ws W l := by
  induction l using snoc_ind with
  | h0 => simp [addM, ws]
  | h1 l x ih =>
    rw [addM_snoc, ws_put (addM_nk l), ws_app, ih, ws_cons, ws_nil]
    congr 1
    rw [show (List.lookup x.1 (addM l)).getD 0 + x.2 - (List.lookup x.1 (addM l)).getD 0 = x.2 by omega]; omega
def red (p : Nat) (m : Poly) : Poly := m.map fun r => (r.1, r.2 % (p : Int))
theorem ws_red {W} {p : Nat} : ∀ {m : Poly}, ws W (red p m) % (p : Int) = ws W m % (p : Int)
  | [] => rfl
  | r :: m => by
    rw [red, List.map_cons, ws_cons, ws_cons]
    exact em_add (modmul _ _ _) ws_red
theorem red_keys {p : Nat} {m : Poly} : (red p m).map (·.1) = m.map (·.1) := by simp [red]
theorem red_look {p : Nat} {m : Poly} {k : List Int} : (red p m).lookup k = (m.lookup k).map (· % (p : Int)) := by
  induction m with
  | nil => rfl
  | cons r m ih =>
    rw [red, List.map_cons, List.lookup, List.lookup]
    cases (k == r.1)
    · exact ih
    · rfl
theorem ws_mk {W} {p : Nat} {m : Poly} (h : NK m) : ws W (mk p m) % (p : Int) = ws W m % (p : Int) := by
  unfold mk
  rw [ws_nz, ws_rev, ws_perm ((List.mergeSort_perm (m.map (·.1)) lexLe).map _)]
  have : (m.map (·.1)).map (fun k => (k, (m.lookup k).getD 0 % (p : Int))) = red p m := by
    unfold red
    rw [List.map_map]
    refine List.map_congr_left fun r hr => ?_
    simp only [Function.comp, look_own h r hr, Option.getD_some]
  rw [this, ws_red]
def Can (p n : Nat) (f : Poly) : Prop := (∀ r ∈ f, Pw p n r.1 ∧ 0 < r.2 ∧ r.2 < (p : Int)) ∧ f.Pairwise fun a b => lexLe a.1 b.1 = false
theorem lexLe_refl (a : List Int) : lexLe a a = true := by simpa using lexLe_total a a
theorem mk_can {p n : Nat} {m : Poly} (hp : 0 < p) (hk : ∀ r ∈ m, Pw p n r.1) (h : NK m) : Can p n (mk p m) := by
  refine ⟨fun r hr => ?_, ?_⟩
  · have h1 := mk_pol hp hk r hr
    have h2 : r.2 ≠ 0 := by
      unfold mk at hr
      simpa using (List.mem_filter.mp hr).2
    exact ⟨h1.1, by omega, h1.2.2⟩
  · unfold mk
    refine List.Pairwise.filter _ ?_
    rw [List.pairwise_reverse, List.pairwise_map]
    have h1 : ((m.map (·.1)).mergeSort lexLe).Pairwise fun a b => lexLe a b = true := List.pairwise_mergeSort lexLe_trans lexLe_total _
    have h2 : ((m.map (·.1)).mergeSort lexLe).Nodup := ((List.mergeSort_perm _ _).nodup_iff).mpr h
    refine List.Pairwise.imp₂ (fun {a b} (h3 : lexLe a b = true) (h4 : a ≠ b) => ?_) h1 h2
    cases h5 : lexLe b a
    · rfl
    · exact absurd (lexLe_anti a b h3 h5) h4
theorem Can.nk {p n : Nat} {f : Poly} (h : Can p n f) : NK f := by
  unfold NK
  rw [List.Nodup, List.pairwise_map]
  refine h.2.imp fun {a b} h3 e => ?_
  rw [e, lexLe_refl] at h3
  cases h3
theorem Can.pol {p n : Nat} {f : Poly} (h : Can p n f) : Pol p n f := fun r hr => by
  have := h.1 r hr
  exact ⟨this.1, by omega, this.2.2⟩
theorem srt_ext {α : Type} {R : α → α → Prop} (irr : ∀ a, ¬ R a a) (asy : ∀ a b, R a b → ¬ R b a) : ∀ f g : List α, f.Pairwise R → g.Pairwise R → (∀ r, r ∈ f ↔ r ∈ g) → f = g
  | [], [], _, _, _ => rfl
  | [], b :: g, _, _, h => by have := (h b).mpr (by simp); simp at this
  | a :: f, [], _, _, h => by have := (h a).mp (by simp); simp at this
  | a :: f, b :: g, hf, hg, h => by
    rw [List.pairwise_cons] at hf hg
    have e : a = b := by
      rcases List.mem_cons.mp ((h a).mp (by simp)) with e | e
      · exact e
      · rcases List.mem_cons.mp ((h b).mpr (by simp)) with e2 | e2
        · exact e2.symm
        · exact absurd (hg.1 a e) (asy _ _ (hf.1 b e2))
    subst e
    rw [srt_ext irr asy f g hf.2 hg.2 (fun r => ⟨fun hr => ?_, fun hr => ?_⟩ : ∀ r, r ∈ f ↔ r ∈ g)]
    · rcases List.mem_cons.mp ((h r).mp (List.mem_cons_of_mem _ hr)) with e | e
      · exact absurd (hf.1 r hr) (by rw [e]; exact irr _)
      · exact e
    · rcases List.mem_cons.mp ((h r).mpr (List.mem_cons_of_mem _ hr)) with e | e
      · exact absurd (hg.1 r hr) (by rw [e]; exact irr _)
      · exact e
def dl (k q : List Int) : Int := if q = k then 1 else 0
theorem cf_not {k : List Int} : ∀ {f : Poly}, k ∉ f.map (·.1) → ws (dl k) f = 0
  | [], _ => rfl
  | r :: f, h => by
    rw [List.map_cons, List.mem_cons, not_or] at h
    rw [ws_cons, cf_not h.2, dl, if_neg (fun e => h.1 e.symm)]; omega
theorem cf_mem : ∀ {f : Poly} {r : List Int × Int}, NK f → r ∈ f → ws (dl r.1) f = r.2
  | [], _, _, h => by simp at h
  | q :: f, r, h, hr => by
    obtain ⟨h1, h2⟩ := NK.cons.mp h
    rw [ws_cons]
    rcases List.mem_cons.mp hr with rfl | hr
    · rw [cf_not h1, dl, if_pos rfl]; omega
    · rw [cf_mem h2 hr, dl, if_neg (fun e : q.1 = r.1 => h1 (by rw [e]; exact List.mem_map_of_mem hr))]; omega
theorem can_sub {p n : Nat} {f g : Poly} (hf : Can p n f) (hg : Can p n g) (h : ∀ k, Pw p n k → ws (dl k) f % (p : Int) = ws (dl k) g % (p : Int)) : ∀ r ∈ f, r ∈ g := by
  intro r hr
  have h1 := hf.1 r hr
  have h2 := h r.1 h1.1
  rw [cf_mem hf.nk hr, Int.emod_eq_of_lt (by omega) (by omega)] at h2
  by_cases h3 : r.1 ∈ g.map (·.1)
  · obtain ⟨q, hq, e⟩ := List.mem_map.mp h3
    have h4 := hg.1 q hq
    rw [← e, cf_mem hg.nk hq, Int.emod_eq_of_lt (by omega) (by omega)] at h2
    have : r = q := Prod.ext e.symm h2
    rw [this]; exact hq
  · rw [cf_not h3] at h2
    simp at h2; omega
theorem can_ext {p n : Nat} {f g : Poly} (hf : Can p n f) (hg : Can p n g) (h : ∀ k, Pw p n k → ws (dl k) f % (p : Int) = ws (dl k) g % (p : Int)) : f = g :=
  srt_ext (R := fun a b : List Int × Int => lexLe a.1 b.1 = false) (fun a => by rw [lexLe_refl]; simp) (fun a b h1 h2 => by have := lexLe_total a.1 b.1; rw [h1, h2] at this; simp at this) f g hf.2 hg.2 fun r => ⟨can_sub hf hg h r, can_sub hg hf (fun k hk => (h k hk).symm) r⟩
theorem mem_pts {p : Nat} : ∀ {n : Nat} {k : List Int}, Pw p n k → k ∈ pts p n
  | 0, k, h => by
    have := h.1
    rw [List.length_eq_zero_iff] at this
    subst this; simp [pts]
  | n + 1, k, h => by
    obtain ⟨h1, h2⟩ := h
    have hne : k ≠ [] := fun e => by rw [e] at h1; simp at h1
    have h3 := List.dropLast_concat_getLast hne
    have h4 := h2 (k.getLast hne) (List.getLast_mem hne)
    rw [← h3]
    refine List.mem_flatMap.mpr ⟨k.dropLast, mem_pts ⟨by rw [List.length_dropLast]; omega, fun x hx => h2 x (List.dropLast_subset _ hx)⟩, List.mem_map.mpr ⟨(k.getLast hne).toNat, List.mem_range.mpr (by omega), ?_⟩⟩
    rw [Int.toNat_of_nonneg h4.1]
theorem nodup_le {α : Type} [DecidableEq α] : ∀ {l m : List α}, l.Nodup → (∀ x ∈ l, x ∈ m) → l.length ≤ m.length
  | [], m, _, _ => by simp
  | a :: l, m, h, hs => by
    rw [List.nodup_cons] at h
    have h1 := nodup_le (m := m.erase a) h.2 fun x hx => (List.mem_erase_of_ne (fun e => h.1 (by rw [← e]; exact hx))).mpr (hs x (List.mem_cons_of_mem _ hx))
    have h2 := List.length_erase_of_mem (hs a (by simp))
    have h3 : 0 < m.length := List.length_pos_of_mem (hs a (by simp))
    rw [List.length_cons]; omega
theorem Can.len {p n : Nat} {f : Poly} (h : Can p n f) : f.length ≤ (pts p n).length := by
  have := nodup_le (l := f.map (·.1)) (m := pts p n) (show (f.map (·.1)).Nodup from h.nk) fun k hk => by
    obtain ⟨r, hr, rfl⟩ := List.mem_map.mp hk
    exact mem_pts (h.1 r hr).1
  simpa using this
theorem Pw.zero {p n : Nat} (hp : 1 ≤ p) : Pw p n (List.replicate n 0) := ⟨by simp, fun x hx => by rw [List.eq_of_mem_replicate hx]; omega⟩
theorem one_nk {k : List Int} {c : Int} : NK [(k, c)] := by simp [NK]
theorem red_len {p : Nat} {m : Poly} : (red p m).length = m.length := by simp [red]

theorem slc_ints {L : List Int} {a b : Int} (h : 0 ≤ a ∧ a ≤ b ∧ b ≤ (L.length : Int)) : ∃ Q : List Int, slcL (some a) (some b) (.lst (L.map .int)) = some (.lst (Q.map .int)) ∧ (Q.length : Int) = b - a ∧ ∀ d ∈ Q, d ∈ L := by
  refine ⟨(L.drop a.toNat).take (b.toNat - a.toNat), ?_, ?_, ?_⟩
  · have h1 : ¬ a < 0 := by omega
    have h2 : ¬ b < 0 := by omega
    have h3 : min a.toNat (L.map D.int).length = a.toNat := by rw [List.length_map]; omega
    have h4 : min b.toNat (L.map D.int).length = b.toNat := by rw [List.length_map]; omega
    simp only [slcL, cut, six, if_neg h1, if_neg h2, h3, h4, List.map_take, List.map_drop]
  · rw [List.length_take, List.length_drop]; omega
  · intro d hd
    exact List.mem_of_mem_drop (List.mem_of_mem_take hd)
theorem drawn_eq {p n : Nat} (h : Sh p n) (c : Int) : ∃ f : Poly, F__law_drawn [nD p, nD n, .int c] = some (pD f) ∧ Can p n f ∧ f.length ≤ 6 := by
  have hb := h.bd
  obtain ⟨L, hL, hLl, hLb⟩ := digits_eq c 420 (6 * (n + 1) + 1) (by omega) (by omega)
  have hn : (6 * ((n : Int) + 1) + 1) = ((6 * (n + 1) + 1 : Nat) : Int) := by push_cast; rfl
  have hL0 : 0 < L.length := by omega
  obtain ⟨t, ht⟩ : ∃ t : Nat, L[0] % 7 = t := ⟨(L[0] % 7).toNat, by have := Int.emod_nonneg L[0] (show (7 : Int) ≠ 0 by omega); omega⟩
  have ht7 : t < 7 := by have := Int.emod_lt_of_pos L[0] (show (0 : Int) < 7 by omega); omega
  have h0 : L[0]? = some L[0] := List.getElem?_eq_getElem hL0
  unfold F__law_drawn
  simp_arith [hn, hL, h0, ht]
  generalize hl : loop _ _ _ _ = o
  obtain ⟨e, rfl, m, s5, s6, s7, rfl, hm, hk, hN⟩ := loop_o hl (fun i e => ∃ (m : Poly) (s5 s6 s7 : DSlot), e = [.val (nD p), .val (nD n), .val (.int c), .val (.lst (L.map .int)), .own (dcD m), s5, s6, s7, .no] ∧ m.length ≤ i ∧ (∀ r ∈ m, Pw p n r.1) ∧ NK m)
    ⟨[], .no, .no, .no, rfl, by simp, by simp, by simp [NK]⟩ (by
      rintro i k e hk ⟨m, s5, s6, s7, rfl, hm, hP, hN⟩
      have hi : k = i ∧ i < t := by
        obtain ⟨h1, h2⟩ := List.getElem?_eq_some_iff.mp hk
        rw [List.getElem_range] at h2
        exact ⟨h2.symm, by simpa using h1⟩
      have hk6 : k ≤ 5 := by omega
      have q1 : ((k : Int) + 1) * ((n : Int) + 1) = k * (n + 1) + (n + 1) := by rw [Int.add_mul, Int.one_mul]
      have q2 : ((k : Int) + 1) * ((n : Int) + 1) ≤ 6 * (n + 1) := Int.mul_le_mul_of_nonneg_right (by omega) (by omega)
      have q3 : 0 ≤ (k : Int) * ((n : Int) + 1) := Int.mul_nonneg (by omega) (by omega)
      obtain ⟨Q, e1, hQl, hQm⟩ := slc_ints (L := L) (a := 1 + k * (n + 1)) (b := 1 + (k + 1) * (n + 1)) (by omega)
      have hQn : Q.length = n + 1 := by omega
      have e2 : lcRun (gD (.n 8)) yes (op2 modD (cal (f1 intD) (aC (op2 getD (var 6) (var 8)) aN)) (var 0)) [.val (nD p), .val (nD n), .val (.int c), .val (.lst (L.map .int)), .own (dcD m), .val (nD k), .val (.lst (Q.map .int)), s7, .no] ((List.range n).map fun (k : Nat) => D.int (k : Int)) = some (((List.range n).map fun j => Q.getD j 0 % (p : Int)).map D.int) :=
        lcRun_m (fun j => Q.getD j 0 % (p : Int)) fun j hj => by
          have hj2 : j < Q.length := by have := List.mem_range.mp hj; omega
          have h1 : Q[j]? = some Q[j] := List.getElem?_eq_getElem hj2
          simp_arith [h1, List.getD_eq_getElem?_getD]
      have h1 : Q[n]? = some (Q[n]'(by omega)) := List.getElem?_eq_getElem (by omega)
      refine stp (by simp_arith [e1, e2, h1, stK_m]; rfl) ?_
      refine ⟨_, _, _, _, rfl, Nat.le_trans put_len (by omega), fun r hr => ?_, put_nk hN⟩
      rcases put_mem hr with rfl | hr
      · refine ⟨by simp, fun x hx => ?_⟩
        obtain ⟨j, _, rfl⟩ := List.mem_map.mp hx
        exact ⟨Int.emod_nonneg _ (by omega), Int.emod_lt_of_pos _ (by omega)⟩
      · exact hP r hr)
  have hm6 : m.length ≤ 6 := by simp at hm; omega
  have e3 := made_eq (p := p) (n := n) (m := m) (by omega) (by omega) (by omega) hk
  refine ⟨mk p m, by simp_arith [e3], mk_can (by omega) hk hN, Nat.le_trans mk_len hm6⟩

theorem put_fresh {m : Poly} {k : List Int} {v : Int} (h : k ∉ m.map (·.1)) : put m k v = m ++ [(k, v)] := by
  rw [put, look_none.mpr h]; rfl
theorem nk_fresh {a b : Poly} {r} (h : NK (a ++ r :: b)) : r.1 ∉ a.map (·.1) := by
  unfold NK at h
  rw [List.map_append, List.map_cons, List.nodup_append] at h
  intro z
  exact h.2.2 r.1 z r.1 (by simp) rfl
theorem putL_id : ∀ {f a : Poly}, NK (a ++ f) → putL a f = a ++ f
  | [], a, _ => by simp [putL]
  | r :: f, a, h => by
    have h1 := nk_fresh h
    have h2 : NK ((a ++ [(r.1, r.2)]) ++ f) := by rw [List.append_assoc]; exact h
    have h3 := putL_id h2
    rw [List.append_assoc] at h3
    show putL (put a r.1 r.2) f = _
    rw [put_fresh h1]; exact h3
def scal (f : Poly) (c : Int) : Poly := f.map fun r => (r.1, r.2 * c)
theorem scal_keys {f : Poly} {c : Int} : (scal f c).map (·.1) = f.map (·.1) := by simp [scal]
theorem scal_nk {f : Poly} {c : Int} (h : NK f) : NK (scal f c) := by unfold NK; rw [scal_keys]; exact h
theorem ws_scl {W} {c : Int} : ∀ {f : Poly}, ws W (scal f c) = c * ws W f
  | [] => by simp [scal, ws]
  | r :: f => by
    have := ws_scl (W := W) (c := c) (f := f)
    rw [scal, List.map_cons, ws_cons, ws_cons, ← scal, this, Int.mul_add]
    have e : r.2 * c * W r.1 = c * (r.2 * W r.1) := by ac_rfl
    exact congrArg (· + _) e
theorem scal_pw {p n : Nat} {f : Poly} {c : Int} (h : ∀ r ∈ f, Pw p n r.1) : ∀ r ∈ scal f c, Pw p n r.1 := fun r hr => by
  obtain ⟨q, hq, rfl⟩ := List.mem_map.mp hr
  exact h q hq
theorem scal_len {f : Poly} {c : Int} : (scal f c).length = f.length := by simp [scal]
def lscal (p : Nat) (f : Poly) (c : Int) : Poly := (f.map fun r => (r.1, r.2 * c % (p : Int))).filter fun r => r.2 ≠ 0
theorem lscal_can {p n : Nat} {f : Poly} {c : Int} (hp : 0 < p) (h : Can p n f) : Can p n (lscal p f c) := by
  refine ⟨fun r hr => ?_, ?_⟩
  · obtain ⟨h1, h2⟩ := List.mem_filter.mp hr
    obtain ⟨q, hq, rfl⟩ := List.mem_map.mp h1
    have h2 : q.2 * c % (p : Int) ≠ 0 := by simpa using h2
    have h3 := Int.emod_nonneg (q.2 * c) (show (p : Int) ≠ 0 by omega)
    have h4 := Int.emod_lt_of_pos (q.2 * c) (show (0 : Int) < (p : Int) by omega)
    exact ⟨(h.1 q hq).1, by show 0 < q.2 * c % (p : Int); omega, h4⟩
  · unfold lscal
    refine List.Pairwise.filter _ ?_
    rw [List.pairwise_map]
    exact h.2
theorem ws_red2 {W} {p : Nat} {c : Int} {f : Poly} : ws W (lscal p f c) % (p : Int) = ws W (scal f c) % (p : Int) := by
  unfold lscal
  rw [ws_nz]
  have : f.map (fun r => (r.1, r.2 * c % (p : Int))) = red p (scal f c) := by simp [red, scal]
  rw [this, ws_red]
theorem lscal_eq {p n : Nat} {f : Poly} {c : Int} (hp : 0 < p) (h : Can p n f) : lscal p f c = mk p (scal f c) :=
  can_ext (lscal_can hp h) (mk_can hp (scal_pw h.pol.pw) (scal_nk h.nk)) fun k _ => by rw [ws_red2, ws_mk (scal_nk h.nk)]
theorem add_can {p n : Nat} (hp : 0 < p) {f g : Poly} (hf : ∀ r ∈ f, Pw p n r.1) (hg : ∀ r ∈ g, Pw p n r.1) : Can p n (mk p (addM (f ++ g))) :=
  mk_can hp (addM_pw _ (fun r hr => by
    rcases List.mem_append.mp hr with hr | hr
    · exact hf r hr
    · exact hg r hr)) (addM_nk _)
theorem ws_add {W} {p : Nat} {f g : Poly} : ws W (mk p (addM (f ++ g))) % (p : Int) = (ws W f + ws W g) % (p : Int) := by
  rw [ws_mk (addM_nk _), ws_addM, ws_app]
theorem scl_can {p n : Nat} (hp : 0 < p) {f : Poly} {c : Int} (h : Can p n f) : Can p n (mk p (scal f c)) := mk_can hp (scal_pw h.pol.pw) (scal_nk h.nk)
def subP (p : Nat) (f g : Poly) : Poly := mk p (addM (f ++ mk p (scal g ((p : Int) - 1))))
theorem sub_can {p n : Nat} (hp : 0 < p) {f g : Poly} (hf : Can p n f) (hg : Can p n g) : Can p n (subP p f g) := add_can hp hf.pol.pw (scl_can hp hg).pol.pw
theorem ws_sub {W} {p n : Nat} {f g : Poly} (hg : Can p n g) : ws W (subP p f g) % (p : Int) = (ws W f - ws W g) % (p : Int) := by
  unfold subP
  rw [ws_add, em_add rfl (ws_mk (scal_nk hg.nk)), ws_scl]
  have : ws W f + ((p : Int) - 1) * ws W g = ws W f - ws W g + (p : Int) * ws W g := by rw [Int.sub_mul, Int.one_mul]; omega
  rw [this, Int.add_mul_emod_self_left]
theorem nil_can {p n : Nat} : Can p n [] := ⟨fun r hr => by simp at hr, .nil⟩
theorem sub_self {p n : Nat} (hp : 0 < p) {f : Poly} (hf : Can p n f) : subP p f f = [] :=
  can_ext (sub_can hp hf hf) nil_can fun k _ => by rw [ws_sub hf, Int.sub_self]; rfl

theorem zipD_ints (a b : List Int) : zipD [iD a, iD b] = some ((a.zip b).map fun q => .tup [.int q.1, .int q.2]) := by
  simp only [zipD, List.zip_map, List.map_map]; rfl
theorem mulD_t {n : Nat} (h : 1 ≤ n ∧ n ≤ 1000) : mulD (.tup [.int 0]) (nD n) = some (iD (List.replicate n 0)) := by
  have h1 : (1 : Int) ≤ (n : Int) := by omega
  have h2 : (n : Int) ≤ 1000 := by omega
  simp only [mulD, h1, h2, List.length_cons, List.length_nil, List.isEmpty_cons, Bool.not_false, decide_true, Bool.true_and, if_true, Int.toNat_natCast]
  rw [if_pos (by decide)]
  congr
  have : ∀ n, (List.replicate n [D.int 0]).flatten = (List.replicate n 0).map D.int := fun n => by
    induction n with
    | zero => rfl
    | succ n ih => rw [List.replicate_succ, List.replicate_succ, List.flatten_cons, ih]; rfl
  exact this n

theorem inL_pts {l : List (List Int)} {q : List Int} : inL (iD q) (.lst (l.map iD)) = some (decide (q ∈ l)) := by
  have h1 : (iD q).plain 60 = true := plain_iD q
  have h2 : D.plains 59 (l.map iD) = true := plains_all fun d hd => by
    obtain ⟨x, _, rfl⟩ := List.mem_map.mp hd
    exact plain_iD x
  simp only [inL, h1, h2, Bool.and_self, if_true]
  congr 1
  induction l with
  | nil => rfl
  | cons a l ih =>
    have h3 : D.plains 59 (l.map iD) = true := plains_all fun d hd => by
      obtain ⟨x, _, rfl⟩ := List.mem_map.mp hd
      exact plain_iD x
    rw [List.map_cons, List.any_cons, ih h3, eqv_iD]
    by_cases h : a = q
    · simp [h]
    · have : ¬ q = a := fun e => h e.symm
      simp [h, this]

theorem dput_new {m : Poly} {k : List Int} {v : Int} (h : k ∉ m.map (·.1)) : dput (m.map fun r => iD r.1) (m.map fun r => .int r.2) (iD k) (.int v) = ((m ++ [(k, v)]).map (fun r => iD r.1), (m ++ [(k, v)]).map fun r => .int r.2) := by
  rw [dput_enc, put, look_none.mpr h]; rfl
theorem dcRun_red {p : Nat} (hp : 2 ≤ p) {ns : List Str} {m0 : Poly} : ∀ (b a : Poly), NK (a ++ b) → dcRun true (gD (.t [(.n 3), (.n 4)])) (var 3) (op2 modD (var 4) (fld ["Space"] "prime" (var 0))) [.val (spcD p ns), .val (dcD m0), .no, .no, .no] (b.map rowD) ((red p a).map fun r => iD r.1) ((red p a).map fun r => .int r.2) = some ((red p (a ++ b)).map (fun r => iD r.1), (red p (a ++ b)).map fun r => .int r.2)
  | [], a, _ => by rw [List.append_nil, List.map_nil, dcRun]
  | r :: b, a, h => by
    have h2 : NK ((a ++ [r]) ++ b) := by rw [List.append_assoc]; exact h
    have ih := dcRun_red hp (ns := ns) (m0 := m0) b (a ++ [r]) h2
    have h3 : r.1 ∉ (red p a).map (·.1) := by
      rw [red_keys]
      unfold NK at h
      rw [List.map_append, List.map_cons, List.nodup_append] at h
      intro z
      exact h.2.2 r.1 z r.1 (by simp) rfl
    have h4 : red p a ++ [(r.1, r.2 % (p : Int))] = red p (a ++ [r]) := by simp [red]
    rw [List.map_cons]
    unfold dcRun
    simp_arith [sp_prime, dput_new h3, h4, keyD_iD]
    rw [ih, List.append_assoc]; rfl
theorem from_eq {p : Nat} (hp : 2 ≤ p) {ns : List Str} {m : Poly} (hl : m.length ≤ 100000) (hk : ∀ r ∈ m, r.1 ≠ []) (hn : NK m) : F_from_numbers [spcD p ns, dcD m] = some (pD (mk p m)) := by
  have e0 := sortKR_g (m := red p m) (by rw [red_len]; omega) (fun r hr => by
    obtain ⟨q, hq, rfl⟩ := List.mem_map.mp hr
    exact hk q hq)
  rw [red_keys] at e0
  have e1 : itemsD (dcD m) = some (m.map rowD) := by
    simp only [itemsD, dcD, List.zip_map', List.map_map]; rfl
  have e2 := dcRun_red hp (ns := ns) (m0 := m) m [] hn
  rw [List.nil_append] at e2
  have e2 : dcRun true (gD (.t [(.n 3), (.n 4)])) (var 3) (op2 modD (var 4) (fld ["Space"] "prime" (var 0))) [.val (spcD p ns), .val (dcD m), .no, .no, .no] (m.map rowD) [] [] = _ := e2
  generalize hK : (m.map (·.1)).mergeSort lexLe = K at e0
  have hKl : K.length = m.length := by rw [← hK]; simp
  have hKm : ∀ k ∈ K, k ∈ (red p m).map (·.1) := fun k h => by
    rw [red_keys]; rw [← hK] at h; exact (List.mergeSort_perm _ _).mem_iff.mp h
  have e3 : lcRun (gD (.n 3)) (cmp (neg eqD) (op2 getK (var 2) (var 3)) (cst (.int 0))) (tupE (aC (var 3) (aC (op2 getK (var 2) (var 3)) aN))) [.val (spcD p ns), .val (dcD m), .val (dcD (red p m)), .no, .no] (K.reverse.map iD) = some (((K.reverse.filter fun k => decide (((red p m).lookup k).getD 0 ≠ 0)).map fun k => (k, ((red p m).lookup k).getD 0)).map rowD) :=
    lcRun_f (enc := iD) (enc' := rowD) (fun k => decide (((red p m).lookup k).getD 0 ≠ 0)) (fun k => (k, ((red p m).lookup k).getD 0)) fun k hk => by
      obtain ⟨v, h1, _⟩ := lookup_mem (hKm k (List.mem_reverse.mp hk))
      by_cases h : v = 0
      · simp_arith [getK_m, h1, h]
      · have h2 : v = 0 ↔ False := iff_false_intro h
        simp_arith [getK_m, h1, h2]
  have e4 : (K.reverse.filter fun k => decide (((red p m).lookup k).getD 0 ≠ 0)).map (fun k => (k, ((red p m).lookup k).getD 0)) = mk p m := by
    unfold mk
    rw [hK, ← List.map_reverse, List.filter_map]
    have : ∀ k, ((red p m).lookup k).getD 0 = (m.lookup k).getD 0 % (p : Int) := fun k => by
      rw [red_look]; cases m.lookup k <;> simp
    simp only [this]; rfl
  have e5 : D.dic true ((red p m).map fun r => iD r.1) ((red p m).map fun r => .int r.2) = dcD (red p m) := rfl
  unfold F_from_numbers
  simp_arith [e1, e2, e5, e0, e3, e4, List.length_reverse]

def wt (p : Nat) (a x : Int) : Int := if a = 0 then (if x = 0 then 1 else 0) else -(x ^ (p - 1 - a.toNat))
def wtL (p : Nat) (l : List (Int × Int)) : Int := l.foldl (fun s q => s * wt p q.1 q.2) 1
def WT (p : Nat) (k x : List Int) : Int := wtL p (k.zip x)
theorem WT_snoc {p : Nat} {k x : List Int} {a b : Int} (h : k.length = x.length) : WT p (k ++ [a]) (x ++ [b]) = WT p k x * wt p a b := by
  unfold WT; rw [List.zip_append h]; simp [wtL]
theorem mon_snoc {k x : List Int} {a b : Int} (h : k.length = x.length) : mon (k ++ [a]) (x ++ [b]) = mon k x * b ^ a.toNat := by
  unfold mon; rw [List.zip_append h, List.zip_cons_cons, List.zip_nil_left, monL_snoc]
theorem wt_orth : ∀ p ∈ [2, 3, 5, 7], ∀ a < p, ∀ b < p, ((List.range p).map fun j : Nat => wt p (a : Int) (j : Int) * (j : Int) ^ b).sum % (p : Int) = if a = b then 1 else 0 := by decide
def PP (p : Nat) : Prop := p = 2 ∨ p = 3 ∨ p = 5 ∨ p = 7
theorem PP.mem {p : Nat} (h : PP p) : p ∈ [2, 3, 5, 7] := by rcases h with rfl | rfl | rfl | rfl <;> decide
theorem PP.bd {p : Nat} (h : PP p) : 2 ≤ p ∧ p ≤ 7 := by rcases h with rfl | rfl | rfl | rfl <;> decide
theorem wt_orthI {p : Nat} (h : PP p) {a b : Int} (ha : 0 ≤ a ∧ a < (p : Int)) (hb : 0 ≤ b ∧ b < (p : Int)) : ((List.range p).map fun j : Nat => wt p a (j : Int) * (j : Int) ^ b.toNat).sum % (p : Int) = if a = b then 1 else 0 := by
  obtain ⟨a', rfl⟩ := Int.eq_ofNat_of_zero_le ha.1
  obtain ⟨b', rfl⟩ := Int.eq_ofNat_of_zero_le hb.1
  have h1 := wt_orth p h.mem a' (by omega) b' (by omega)
  rw [Int.toNat_natCast, h1]
  by_cases e : a' = b'
  · rw [if_pos e, if_pos (by omega)]
  · rw [if_neg e, if_neg (by omega)]
theorem sum_mulL {α : Type} {c : Int} {F : α → Int} : ∀ {l : List α}, (l.map fun x => c * F x).sum = c * (l.map F).sum
  | [] => by simp
  | a :: l => by rw [List.map_cons, List.map_cons, List.sum_cons, List.sum_cons, sum_mulL, Int.mul_add]
theorem sum_mulR {α : Type} {c : Int} {F : α → Int} : ∀ {l : List α}, (l.map fun x => F x * c).sum = (l.map F).sum * c
  | [] => by simp
  | a :: l => by rw [List.map_cons, List.map_cons, List.sum_cons, List.sum_cons, sum_mulR, Int.add_mul]
theorem sum_add {α : Type} {F G : α → Int} : ∀ {l : List α}, (l.map fun x => F x + G x).sum = (l.map F).sum + (l.map G).sum
  | [] => by simp
  | a :: l => by
    rw [List.map_cons, List.map_cons, List.map_cons, List.sum_cons, List.sum_cons, List.sum_cons, sum_add]; omega
theorem sum_grow {p : Nat} {F : List Int → Int} : ∀ {l : List (List Int)}, ((grow p l).map F).sum = (l.map fun y => ((List.range p).map fun j : Nat => F (y ++ [(j : Int)])).sum).sum
  | [] => by simp [grow]
  | y :: l => by
    have := sum_grow (p := p) (F := F) (l := l)
    unfold grow at this ⊢
    rw [List.flatMap_cons, List.map_append, List.sum_append, this, List.map_cons, List.sum_cons, List.map_map]
    rfl
theorem sum_cong {α : Type} {F G : α → Int} {l : List α} (h : ∀ x ∈ l, F x = G x) : (l.map F).sum = (l.map G).sum := by
  rw [List.map_congr_left h]
theorem sum_congM {α : Type} {n : Int} {F G : α → Int} : ∀ {l : List α}, (∀ x ∈ l, F x % n = G x % n) → (l.map F).sum % n = (l.map G).sum % n
  | [], _ => rfl
  | a :: l, h => by
    rw [List.map_cons, List.map_cons, List.sum_cons, List.sum_cons]
    exact em_add (h a (by simp)) (sum_congM fun x hx => h x (List.mem_cons_of_mem _ hx))
theorem snoc_eq {n : Nat} {k : List Int} (h : k.length = n + 1) : ∃ q a, k = q ++ [a] ∧ q.length = n := by
  have hne : k ≠ [] := fun e => by rw [e] at h; simp at h
  exact ⟨k.dropLast, k.getLast hne, (List.dropLast_concat_getLast hne).symm, by rw [List.length_dropLast]; omega⟩
theorem Pw.snoc {p n : Nat} {q : List Int} {a : Int} (h : Pw p (n + 1) (q ++ [a])) : Pw p n q ∧ 0 ≤ a ∧ a < (p : Int) := by
  have h1 := h.1
  rw [List.length_append, List.length_singleton] at h1
  exact ⟨⟨by omega, fun x hx => h.2 x (by simp [hx])⟩, h.2 a (by simp)⟩
theorem orth {p : Nat} (h : PP p) : ∀ (n : Nat) (k q : List Int), Pw p n k → Pw p n q → ((pts p n).map fun x => WT p k x * mon q x).sum % (p : Int) = if k = q then 1 else 0
  | 0, k, q, hk, hq => by
    have h1 := List.length_eq_zero_iff.mp hk.1
    have h2 := List.length_eq_zero_iff.mp hq.1
    subst h1; subst h2
    have := h.bd
    rw [if_pos rfl]
    show (1 * 1 + 0) % (p : Int) = 1
    exact Int.emod_eq_of_lt (by omega) (by omega)
  | n + 1, k, q, hk, hq => by
    obtain ⟨k, a, rfl, hkl⟩ := snoc_eq hk.1
    obtain ⟨q, b, rfl, hql⟩ := snoc_eq hq.1
    obtain ⟨hk, ha⟩ := hk.snoc
    obtain ⟨hq, hb⟩ := hq.snoc
    have e : ((pts p (n + 1)).map fun x => WT p (k ++ [a]) x * mon (q ++ [b]) x).sum = ((pts p n).map fun x => WT p k x * mon q x).sum * ((List.range p).map fun j : Nat => wt p a (j : Int) * (j : Int) ^ b.toNat).sum := by
      rw [pts, sum_grow, ← sum_mulR]
      refine sum_cong fun y hy => ?_
      have hy1 := (pts_pw y hy).1
      rw [← sum_mulL]
      refine sum_cong fun j _ => ?_
      rw [WT_snoc (by omega), mon_snoc (by omega)]
      ac_rfl
    rw [e, Int.mul_emod, orth h n k q hk hq, wt_orthI h ha hb]
    have hp := h.bd
    have e1 : (1 : Int) % (p : Int) = 1 := Int.emod_eq_of_lt (by omega) (by omega)
    by_cases e2 : k = q
    · by_cases e3 : a = b
      · subst e2; subst e3; simp [e1]
      · have e4 : ¬ (k ++ [a] = q ++ [b]) := by simpa using fun _ => e3
        rw [if_neg e3, if_neg e4]; simp
    · have e4 : ¬ (k ++ [a] = q ++ [b]) := by simpa using fun z => absurd z e2
      rw [if_neg e2, if_neg e4]; simp
def ev (f : Poly) (x : List Int) : Int := ws (fun k => mon k x) f
theorem extract {p n : Nat} (h : PP p) {k : List Int} (hk : Pw p n k) : ∀ {f : Poly}, (∀ r ∈ f, Pw p n r.1) → ((pts p n).map fun x => WT p k x * ev f x).sum % (p : Int) = ws (dl k) f % (p : Int)
  | [], _ => by
    have : ((pts p n).map fun x => WT p k x * ev [] x).sum = ((pts p n).map fun x => 0 * WT p k x).sum := sum_cong fun x _ => by simp [ev, ws]
    rw [this, sum_mulL]; simp [ws]
  | r :: f, hf => by
    have h1 : ((pts p n).map fun x => WT p k x * ev (r :: f) x).sum = r.2 * ((pts p n).map fun x => WT p k x * mon r.1 x).sum + ((pts p n).map fun x => WT p k x * ev f x).sum := by
      rw [← sum_mulL, ← sum_add]
      refine sum_cong fun x _ => ?_
      rw [ev, ws_cons, Int.mul_add, ← ev]
      congr 1
      ac_rfl
    rw [h1, ws_cons]
    refine em_add (em_mul rfl ?_) (extract h hk fun r hr => hf r (List.mem_cons_of_mem _ hr))
    rw [orth h n k r.1 hk (hf r (by simp)), dl]
    have hp := h.bd
    have e1 : (1 : Int) % (p : Int) = 1 := Int.emod_eq_of_lt (by omega) (by omega)
    by_cases e2 : k = r.1
    · rw [if_pos e2, if_pos e2.symm, e1]
    · rw [if_neg e2, if_neg (fun z => e2 z.symm)]; simp
theorem uniq {p n : Nat} (h : PP p) {f g : Poly} (hf : Can p n f) (hg : Can p n g) (e : ∀ x ∈ pts p n, ev f x % (p : Int) = ev g x % (p : Int)) : f = g :=
  can_ext hf hg fun k hk => by
    rw [← extract h hk hf.pol.pw, ← extract h hk hg.pol.pw]
    exact sum_congM fun x hx => em_mul rfl (e x hx)
theorem sum_emR {α : Type} {n : Int} {F G : α → Int} {l : List α} : (l.map fun r => F r * (G r % n)).sum % n = (l.map fun r => F r * G r).sum % n := sum_congM fun r _ => mulmod _ _ _
theorem val_ev {p : Nat} {f : Poly} {x : List Int} : val p f x = ev f x % (p : Int) := by
  unfold val; rw [sum_emR]; rfl
theorem Sh.pp {p n : Nat} (h : Sh p n) : PP p := h.most.1
theorem Sh.small {p n : Nat} (h : Sh p n) : (pts p n).length ≤ 49 := by
  rw [pts_len]
  have : ∀ s ∈ shapes, s.1 ^ s.2 ≤ 49 := by decide
  exact this _ h

theorem pts_nodup {p : Nat} : ∀ n : Nat, (pts p n).Nodup
  | 0 => by simp [pts]
  | n + 1 => by
    show List.Pairwise _ _
    rw [pts, grow, List.pairwise_flatMap]
    refine ⟨fun a _ => ?_, ?_⟩
    · rw [List.pairwise_map]
      refine List.Pairwise.imp ?_ (List.nodup_range (n := p))
      intro i j h e
      have := List.append_cancel_left e
      simp at this
      exact h (by omega)
    · refine List.Pairwise.imp ?_ (pts_nodup (p := p) n)
      intro a b h x hx y hy e
      obtain ⟨i, _, rfl⟩ := List.mem_map.mp hx
      obtain ⟨j, _, rfl⟩ := List.mem_map.mp hy
      exact h (List.append_inj_left' e rfl)
def SSv (p : Nat) (T : List Int → Int) : Nat → List Int → Int
  | 0, k => T k
  | i + 1, k => ((List.range p).map fun j : Nat => wt p (k.getD i 0) (j : Int) * SSv p T i (k.set i (j : Int))).sum
theorem sum_zero {α : Type} : ∀ m : List α, (m.map fun _ => (0 : Int)).sum = 0
  | [] => rfl
  | _ :: m => by rw [List.map_cons, List.sum_cons, sum_zero m]; rfl
theorem sum_swap {α β : Type} (F : α → β → Int) : ∀ (l : List α) (m : List β), (l.map fun a => (m.map fun b => F a b).sum).sum = (m.map fun b => (l.map fun a => F a b).sum).sum
  | [], m => (sum_zero m).symm
  | a :: l, m => by
    rw [List.map_cons, List.sum_cons, sum_swap F l m, ← sum_add]
    exact sum_cong fun b _ => by rw [List.map_cons, List.sum_cons]
theorem SSv_eq {p : Nat} {T : List Int → Int} : ∀ (i : Nat) (k : List Int), i ≤ k.length → SSv p T i k = ((pts p i).map fun y => WT p (k.take i) y * T (y ++ k.drop i)).sum
  | 0, k, _ => by
    simp [SSv, pts, WT, wtL]
  | i + 1, k, h => by
    have hk : i < k.length := by omega
    have e1 : ∀ j : Nat, SSv p T i (k.set i (j : Int)) = ((pts p i).map fun y => WT p (k.take i) y * T (y ++ (j : Int) :: k.drop (i + 1))).sum := fun j => by
      rw [SSv_eq i (k.set i (j : Int)) (by rw [List.length_set]; omega)]
      have t1 : (k.set i (j : Int)).take i = k.take i := by rw [List.take_set_of_le (Nat.le_refl i)]
      have t2 : (k.set i (j : Int)).drop i = (j : Int) :: k.drop (i + 1) := by
        rw [List.set_eq_take_append_cons_drop, if_pos hk, List.drop_append_of_le_length (by rw [List.length_take]; omega), List.drop_of_length_le (by rw [List.length_take]; omega)]; rfl
      rw [t1, t2]
    rw [SSv, pts, sum_grow]
    have e2 : ((List.range p).map fun j : Nat => wt p (k.getD i 0) (j : Int) * SSv p T i (k.set i (j : Int))).sum = ((List.range p).map fun j : Nat => ((pts p i).map fun y => WT p (k.take (i + 1)) (y ++ [(j : Int)]) * T (y ++ [(j : Int)] ++ k.drop (i + 1))).sum).sum := sum_cong fun j _ => by
      rw [e1, ← sum_mulL]
      refine sum_cong fun y hy => ?_
      have hy1 := (pts_pw y hy).1
      have t3 : k.take (i + 1) = k.take i ++ [k.getD i 0] := by
        rw [List.take_succ, List.getElem?_eq_getElem hk]; simp [List.getD, List.getElem?_eq_getElem hk]
      rw [t3, WT_snoc (by rw [List.length_take]; omega), List.append_assoc]
      show _ = _ * T (y ++ (j : Int) :: k.drop (i + 1))
      ac_rfl
    rw [e2]
    exact sum_swap _ _ _
theorem SSv_full {p n : Nat} {T : List Int → Int} {k : List Int} (h : Pw p n k) : SSv p T n k = ((pts p n).map fun y => WT p k y * T y).sum := by
  rw [SSv_eq n k (by rw [h.1]; exact Nat.le_refl _)]
  refine sum_cong fun y _ => ?_
  rw [List.take_of_length_le (by rw [h.1]; exact Nat.le_refl _), List.drop_of_length_le (by rw [h.1]; exact Nat.le_refl _), List.append_nil]
theorem wt_dual : ∀ p ∈ ([2, 3, 5, 7] : List Nat), ∀ a < p, ∀ b < p, ((List.range p).map fun e : Nat => wt p (e : Int) (a : Int) * (b : Int) ^ e).sum % (p : Int) = if a = b then 1 else 0 := by decide
theorem wt_dualI {p : Nat} (h : PP p) {a b : Int} (ha : 0 ≤ a ∧ a < (p : Int)) (hb : 0 ≤ b ∧ b < (p : Int)) : ((List.range p).map fun j : Nat => wt p (j : Int) a * b ^ j).sum % (p : Int) = if a = b then 1 else 0 := by
  obtain ⟨a', rfl⟩ := Int.eq_ofNat_of_zero_le ha.1
  obtain ⟨b', rfl⟩ := Int.eq_ofNat_of_zero_le hb.1
  have h1 := wt_dual p h.mem a' (by omega) b' (by omega)
  rw [h1]
  by_cases e : a' = b'
  · rw [if_pos e, if_pos (by omega)]
  · rw [if_neg e, if_neg (by omega)]
theorem orth2 {p : Nat} (h : PP p) : ∀ (n : Nat) (y x : List Int), Pw p n y → Pw p n x → ((pts p n).map fun k => WT p k y * mon k x).sum % (p : Int) = if y = x then 1 else 0
  | 0, k, q, hk, hq => by
    have h1 := List.length_eq_zero_iff.mp hk.1
    have h2 := List.length_eq_zero_iff.mp hq.1
    subst h1; subst h2
    have := h.bd
    rw [if_pos rfl]
    show (1 * 1 + 0) % (p : Int) = 1
    exact Int.emod_eq_of_lt (by omega) (by omega)
  | n + 1, y, x, hk, hq => by
    obtain ⟨y, a, rfl, hkl⟩ := snoc_eq hk.1
    obtain ⟨x, b, rfl, hql⟩ := snoc_eq hq.1
    obtain ⟨hk, ha⟩ := hk.snoc
    obtain ⟨hq, hb⟩ := hq.snoc
    have e : ((pts p (n + 1)).map fun k => WT p k (y ++ [a]) * mon k (x ++ [b])).sum = ((pts p n).map fun k => WT p k y * mon k x).sum * ((List.range p).map fun j : Nat => wt p (j : Int) a * b ^ j).sum := by
      rw [pts, sum_grow, ← sum_mulR]
      refine sum_cong fun k hk => ?_
      have hk1 := (pts_pw k hk).1
      rw [← sum_mulL]
      refine sum_cong fun j _ => ?_
      rw [WT_snoc (by omega), mon_snoc (by omega), Int.toNat_natCast]
      ac_rfl
    rw [e, Int.mul_emod, orth2 h n y x hk hq, wt_dualI h ha hb]
    have hp := h.bd
    have e1 : (1 : Int) % (p : Int) = 1 := Int.emod_eq_of_lt (by omega) (by omega)
    by_cases e2 : y = x
    · by_cases e3 : a = b
      · subst e2; subst e3; simp [e1]
      · have e4 : ¬ (y ++ [a] = x ++ [b]) := by simpa using fun _ => e3
        rw [if_neg e3, if_neg e4]; simp
    · have e4 : ¬ (y ++ [a] = x ++ [b]) := by simpa using fun z => absurd z e2
      rw [if_neg e2, if_neg e4]; simp
theorem sum_dl {F : List Int → Int} {q : List Int} : ∀ {l : List (List Int)}, l.Nodup → q ∈ l → (l.map fun k => dl k q * F k).sum = F q
  | [], _, h => by simp at h
  | a :: l, hn, h => by
    rw [List.nodup_cons] at hn
    rw [List.map_cons, List.sum_cons]
    rcases List.mem_cons.mp h with rfl | h
    · have : (l.map fun k => dl k q * F k).sum = (l.map fun k => 0 * F k).sum := sum_cong fun k hk => by
        rw [dl, if_neg (fun e => hn.1 (by rw [e]; exact hk))]
      rw [this, sum_mulL, dl, if_pos rfl]; omega
    · rw [sum_dl hn.2 h, dl, if_neg (fun e => hn.1 (by rw [← e]; exact h))]; omega
theorem ev_cf {p n : Nat} {x : List Int} : ∀ {f : Poly}, (∀ r ∈ f, Pw p n r.1) → ev f x = ((pts p n).map fun k => ws (dl k) f * mon k x).sum
  | [], _ => by
    have : ((pts p n).map fun k => ws (dl k) [] * mon k x).sum = ((pts p n).map fun k => 0 * mon k x).sum := sum_cong fun k _ => by simp [ws]
    rw [this, sum_mulL]; simp [ev, ws]
  | r :: f, h => by
    have e1 : ((pts p n).map fun k => ws (dl k) (r :: f) * mon k x).sum = r.2 * ((pts p n).map fun k => dl k r.1 * mon k x).sum + ((pts p n).map fun k => ws (dl k) f * mon k x).sum := by
      rw [← sum_mulL, ← sum_add]
      refine sum_cong fun k _ => ?_
      rw [ws_cons, Int.add_mul, Int.mul_assoc]
    rw [e1, sum_dl (pts_nodup n) (mem_pts (h r (by simp))), ev, ws_cons, ← ev, ev_cf fun r hr => h r (List.mem_cons_of_mem _ hr)]
theorem back {p n : Nat} (h : PP p) {f : Poly} {T : List Int → Int} (hf : ∀ r ∈ f, Pw p n r.1) (hc : ∀ k, Pw p n k → ws (dl k) f % (p : Int) = ((pts p n).map fun y => WT p k y * T y).sum % (p : Int)) {x : List Int} (hx : x ∈ pts p n) : ev f x % (p : Int) = T x % (p : Int) := by
  rw [ev_cf hf]
  have e1 : ((pts p n).map fun k => ws (dl k) f * mon k x).sum % (p : Int) = ((pts p n).map fun k => ((pts p n).map fun y => WT p k y * T y).sum * mon k x).sum % (p : Int) := sum_congM fun k hk => em_mul (hc k (pts_pw k hk)) rfl
  have e2 : ((pts p n).map fun k => ((pts p n).map fun y => WT p k y * T y).sum * mon k x).sum = ((pts p n).map fun y => T y * ((pts p n).map fun k => WT p k y * mon k x).sum).sum := by
    have : ((pts p n).map fun k => ((pts p n).map fun y => WT p k y * T y).sum * mon k x).sum = ((pts p n).map fun k => ((pts p n).map fun y => T y * (WT p k y * mon k x)).sum).sum := sum_cong fun k _ => by
      rw [← sum_mulR]
      exact sum_cong fun y _ => by ac_rfl
    rw [this]
    rw [sum_swap]
    exact sum_cong fun y _ => sum_mulL
  rw [e1, e2]
  have e3 : ((pts p n).map fun y => T y * ((pts p n).map fun k => WT p k y * mon k x).sum).sum % (p : Int) = ((pts p n).map fun y => dl y x * T y).sum % (p : Int) := sum_congM fun y hy => by
    rw [Int.mul_emod, orth2 h n y x (pts_pw y hy) (pts_pw x hx), dl]
    by_cases e : y = x
    · rw [if_pos e, if_pos e.symm]; simp
    · rw [if_neg e, if_neg (fun z => e z.symm)]; simp
  rw [e3, sum_dl (pts_nodup n) hx]
theorem put_look {m : Poly} {k q : List Int} {v : Int} : (put m k v).lookup q = if q = k then some v else m.lookup q := by
  unfold put
  split
  · rename_i hs
    have key : ∀ m : Poly, (m.lookup k).isSome = true → (m.map fun r => if r.1 = k then (r.1, v) else r).lookup q = if q = k then some v else m.lookup q := fun m => by
      induction m with
      | nil => intro h; simp at h
      | cons r m ih =>
        intro h
        rw [List.map_cons]
        by_cases e : r.1 = k
        · rw [if_pos e, List.lookup_cons, List.lookup_cons]
          by_cases e2 : q = k
          · simp [e2, e]
          · have e3 : (q == r.1) = false := by simpa [e] using e2
            rw [e3, if_neg e2]
            show (m.map fun r => if r.1 = k then (r.1, v) else r).lookup q = m.lookup q
            clear h ih hs
            induction m with
            | nil => rfl
            | cons s m ih2 =>
              rw [List.map_cons]
              by_cases e4 : s.1 = k
              · have e5 : (q == s.1) = false := by simpa [e4] using e2
                rw [if_pos e4, List.lookup_cons, List.lookup_cons, e5]; exact ih2
              · rw [if_neg e4, List.lookup_cons, List.lookup_cons]
                cases (q == s.1)
                · exact ih2
                · rfl
        · rw [if_neg e, List.lookup_cons, List.lookup_cons]
          by_cases e2 : q = r.1
          · subst e2; simp [e]
          · have e3 : (q == r.1) = false := by simpa using e2
            rw [e3]
            rw [List.lookup_cons] at h
            have e4 : (k == r.1) = false := by simpa using fun z : k = r.1 => e z.symm
            rw [e4] at h
            exact ih h
    exact key m hs
  · rename_i hs
    have hn : m.lookup k = none := Option.not_isSome_iff_eq_none.mp hs
    rw [List.lookup_append]
    by_cases e : q = k
    · subst e; simp [hn]
    · have e3 : (q == k) = false := by simpa using e
      simp [List.lookup_cons, e3, e]

theorem Pw.cons {p n : Nat} {a : Int} {k : List Int} (h : Pw p (n + 1) (a :: k)) : (0 ≤ a ∧ a < (p : Int)) ∧ Pw p n k := by
  have h1 := h.1
  rw [List.length_cons] at h1
  exact ⟨h.2 a (by simp), ⟨by omega, fun x hx => h.2 x (by simp [hx])⟩⟩
theorem points_eq {p n : Nat} (h : Sh p n) : F__law_points [nD p, nD n] = some (.lst ((pts p n).map iD)) := by
  have hb := h.bd
  unfold F__law_points
  simp_arith []
  generalize hl : loop _ _ _ _ = o
  obtain ⟨e, rfl, s3, s4, s5, rfl⟩ := loop_o hl (fun i e => ∃ s3 s4 s5 : DSlot, e = [.val (nD p), .val (nD n), .val (.lst ((pts p i).map iD)), s3, s4, s5, .no])
    ⟨.no, .no, .no, rfl⟩ (by
      rintro i k e hk ⟨s3, s4, s5, rfl⟩
      have hi : i < n := by
        have := (List.getElem?_eq_some_iff.mp hk).1
        simpa using this
      have hz := pts_sz h i (by omega)
      simp_arith []
      generalize hl : loop _ _ _ _ = o
      obtain ⟨e, rfl, s5, rfl⟩ := loop_p hl (fun l e => ∃ s5 : DSlot, e = [.val (nD p), .val (nD n), .val (.lst ((pts p i).map iD)), .val (nD k), .own (.lst ((grow p l).map iD)), s5, .no])
        ⟨_, rfl⟩ (by
          rintro l q e hq hj ⟨s5, rfl⟩
          have hL : (grow p l).length ≤ 117649 := by
            rw [grow_len]
            exact Nat.le_trans (Nat.mul_le_mul (show l.length ≤ 16807 by omega) hb.2.1) (by decide)
          have e1 : lcRun (gD (.n 6)) yes (op2 addD (var 5) (tupE (aC (var 6) aN))) [.val (nD p), .val (nD n), .val (.lst ((pts p i).map iD)), .val (nD k), .own (.lst ((grow p l).map iD)), .val (iD q), .no] ((List.range p).map fun (k : Nat) => D.int (k : Int)) = some (((List.range p).map fun k : Nat => q ++ [(k : Int)]).map iD) :=
            lcRun_m (fun k : Nat => q ++ [(k : Int)]) fun k hk => by
              have := pts_pw q hq
              have h1 := this.1
              simp_arith []
          refine stp (by simp_arith [e1, maT]; rfl) ?_
          exact ⟨_, by rw [grow_app, show grow p [q] = (List.range p).map fun k : Nat => q ++ [(k : Int)] by simp [grow]]⟩)
      refine stp (by simp_arith []; rfl) ?_
      exact ⟨_, _, _, rfl⟩)
  simp_arith []


def okPt (p n : Nat) (k : List Int) : Bool := decide ((k.length : Int) = n) && (k.map fun x => decide (0 ≤ x) && decide (x < (p : Int))).all id
def rowI (f : Poly) (i : Nat) : List Int × Int := f.getD i ([], 0)
def okRow (p n : Nat) (f : Poly) (i : Nat) : Bool :=
  okPt p n (rowI f i).1 && (decide (0 < (rowI f i).2) && decide ((rowI f i).2 < (p : Int))) && (decide (i = 0) || !lexLe (rowI f (i - 1)).1 (rowI f i).1)
def isP (p n : Nat) (f : Poly) : Bool := (List.range f.length).all (okRow p n f)
theorem rowI_get {f : Poly} {i : Nat} (h : i < f.length) : f[i]? = some (rowI f i) := by
  simp [rowI, List.getD, List.getElem?_eq_getElem h]
def bndP (f : Poly) : Prop := ∀ r ∈ f, r.1.length ≤ 1000

theorem ltuple_point_eq {p n : Nat} {k : List Int} (hk : k.length ≤ 1000) : F__law_is_tuple_point [nD p, nD n, iD k] = some (.bl (okPt p n k)) := by
  have e1 : lcRun (gD (.n 3)) yes (boo (chn leD ltD (cst (.int 0)) (var 3) (var 0))) [.val (nD p), .val (nD n), .val (iD k), .no] (k.map .int) = some ((k.map fun x => decide (0 ≤ x) && decide (x < (p : Int))).map .bl) :=
    lcRun_m (fun x => decide (0 ≤ x) && decide (x < (p : Int))) fun x hx => by
      by_cases h : 0 ≤ x
      · simp_arith [chn_e, h]
      · have h : 0 ≤ x ↔ False := iff_false_intro h
        simp_arith [chn_e, h, Bool.false_and]
  unfold F__law_is_tuple_point okPt
  by_cases h : (k.length : Int) = n
  · have h' : k.length = n := by omega
    simp_arith [e1, h, h']
  · have h : (k.length : Int) = n ↔ False := iff_false_intro h
    simp_arith [e1, h, Bool.false_and]
theorem lis_pol_eq {p n : Nat} {f : Poly} (hk : bndP f) (hf : f.length ≤ 100000) : F__law_is_polynomial [nD p, nD n, pD f] = some (.bl (isP p n f)) := by
  unfold F__law_is_polynomial
  simp_arith []
  generalize hl : loop _ _ _ _ = o
  obtain ⟨h1, h2⟩ := loop_ro hl (fun i e => ∃ s3 s4 s5, e = [.val (nD p), .val (nD n), .val (pD f), s3, s4, s5]) (okRow p n f) (.bl false) ⟨_, _, _, rfl⟩ (by
    rintro i k e hk' ⟨s3, s4, s5, rfl⟩
    have hi : k = i ∧ i < f.length := by
      obtain ⟨h1, h2⟩ := List.getElem?_eq_some_iff.mp hk'
      rw [List.getElem_range] at h2
      exact ⟨h2.symm, by simpa using h1⟩
    obtain ⟨rfl, hi⟩ := hi
    have g1 := rowI_get hi
    have b1 := hk _ (List.mem_of_getElem? g1)
    have t1 := ltuple_point_eq (p := p) (n := n) b1
    unfold okRow
    generalize hr : rowI f k = r at *
    cases hA : okPt p n r.1 with
    | false =>
      refine ⟨fun h => by simp at h, fun _ => ?_⟩
      simp_arith [g1, t1, hA]
    | true =>
      by_cases hB : 0 < r.2
      · by_cases hC : r.2 < (p : Int)
        · by_cases hD : k = 0
          · subst hD
            refine ⟨fun _ => stp (by simp_arith [g1, t1, hA, chn_e, hB, hC]; rfl) ⟨_, _, _, rfl⟩, fun h => by simp [hB, hC] at h⟩
          · have hk0 : (0 : Int) < (k : Int) ↔ True := iff_true_intro (by omega)
            have g2 := rowI_get (f := f) (i := k - 1) (by omega)
            have hm : ((k : Int) - 1).toNat = k - 1 := by omega
            generalize hq : rowI f (k - 1) = q at *
            cases hE : lexLe q.1 r.1 with
            | true =>
              refine ⟨fun h => by simp [hD] at h, fun _ => ?_⟩
              simp_arith [g1, t1, hA, chn_e, hB, hC, hk0, hm, g2, ltT_iD, hE]
            | false =>
              refine ⟨fun _ => stp (by simp_arith [g1, t1, hA, chn_e, hB, hC, hk0, hm, g2, ltT_iD, hE]; rfl) ⟨_, _, _, rfl⟩, fun h => by simp [hB, hC] at h⟩
        · have hC' : r.2 < (p : Int) ↔ False := iff_false_intro hC
          refine ⟨fun h => by simp [hC] at h, fun _ => ?_⟩
          simp_arith [g1, t1, hA, chn_e, hB, hC']
      · have hB' : 0 < r.2 ↔ False := iff_false_intro hB
        refine ⟨fun h => by simp [hB] at h, fun _ => ?_⟩
        simp_arith [g1, t1, hA, chn_e, hB'])
  rw [List.length_range] at h1 h2
  cases hP : isP p n f with
  | true =>
    obtain ⟨e, rfl, s3, s4, s5, rfl⟩ := h1 hP
    simp_arith []
  | false =>
    obtain rfl := h2 hP
    simp_arith []

theorem okPt_pw {p n : Nat} {k : List Int} (h : Pw p n k) : okPt p n k = true := by
  unfold okPt
  rw [h.1, decide_eq_true rfl, Bool.true_and, List.all_eq_true]
  intro b hb
  obtain ⟨x, hx, rfl⟩ := List.mem_map.mp hb
  have := h.2 x hx
  simp [this.1, this.2]
theorem can_isP {p n : Nat} {f : Poly} (h : Can p n f) : isP p n f = true := by
  unfold isP
  rw [List.all_eq_true]
  intro i hi
  have hi := List.mem_range.mp hi
  have g1 := rowI_get hi
  have h1 := h.1 _ (List.mem_of_getElem? g1)
  unfold okRow
  rw [okPt_pw h1.1]
  simp only [h1.2.1, h1.2.2, decide_true, Bool.true_and]
  by_cases h2 : i = 0
  · simp [h2]
  · have g2 := rowI_get (f := f) (i := i - 1) (by omega)
    have e1 : f[i - 1] = rowI f (i - 1) := (List.getElem?_eq_some_iff.mp g2).2
    have e2 : f[i] = rowI f i := (List.getElem?_eq_some_iff.mp g1).2
    have h3 := (List.pairwise_iff_getElem.mp h.2) (i - 1) i (by omega) hi (by omega)
    rw [e1, e2] at h3
    simp [h3]

theorem lpower_value_eq {p n : Nat} (hp : 2 ≤ p ∧ p ≤ 1000) {pw pt : List Int} (h : Pw p n pw) (h2 : Pw p n pt) (hn : n ≤ 1000) : F__law_power_value [nD p, iD pw, iD pt] = some (.int (mon pw pt % (p : Int))) := by
  have hl1 := h.1
  have hl2 := h2.1
  unfold F__law_power_value
  simp_arith []
  generalize hl : loop _ _ _ _ = o
  obtain ⟨e, rfl, s4, s5, rfl⟩ := loop_o hl (fun i env => ∃ s4 s5, env = [.val (nD p), .val (iD pw), .val (iD pt), .val (.int (monL ((pw.zip pt).take i) % (p : Int))), s4, s5])
    ⟨_, _, by rw [monL, List.take_zero, List.foldl_nil, one_mod hp.1]⟩ (by
      rintro i k e hk ⟨s4, s5, rfl⟩
      have hi : k = i ∧ i < n := by
        obtain ⟨h1, h2⟩ := List.getElem?_eq_some_iff.mp hk
        rw [List.getElem_range] at h2
        exact ⟨h2.symm, by simpa [hl1] using h1⟩
      have g1 : pw[k]? = some (pw[k]'(by omega)) := List.getElem?_eq_getElem (by omega)
      have g2 : pt[k]? = some (pt[k]'(by omega)) := List.getElem?_eq_getElem (by omega)
      generalize hx : pw[k]'(by omega) = x at g1
      generalize hy : pt[k]'(by omega) = y at g2
      have hxm : x ∈ pw := by rw [← hx]; exact List.getElem_mem _
      have hx2 := h.2 _ hxm
      simp_arith [g1]
      generalize hl : loop _ _ _ _ = o
      obtain ⟨e, rfl, s5, rfl⟩ := loop_o hl (fun j env => ∃ s5, env = [.val (nD p), .val (iD pw), .val (iD pt), .val (.int (monL ((pw.zip pt).take i) * y ^ j % (p : Int))), .val (nD k), s5])
        ⟨_, by rw [Int.pow_zero, Int.mul_one]⟩ (by
          rintro j t e ht ⟨s5, rfl⟩
          have h1 := emod_bd (monL ((pw.zip pt).take i) * y ^ j) hp
          refine stp (by simp_arith [g2, modmul]; rfl) ?_
          exact ⟨_, by rw [Int.pow_succ, Int.mul_assoc]⟩)
      refine stp (by simp_arith []; rfl) ?_
      have g3 : (pw.zip pt)[i]? = some (x, y) := by
        rw [List.getElem?_zip_eq_some]; rw [← hi.1]; exact ⟨g1, g2⟩
      exact ⟨_, _, by rw [List.take_succ, g3, Option.toList_some, monL_snoc]⟩)
  simp_arith []
  rw [List.take_of_length_le (by rw [List.length_zip]; omega)]
  rfl
theorem sum_snoc {α : Type} {f : α → Int} {l : List α} {r : α} : ((l ++ [r]).map f).sum = (l.map f).sum + f r := by simp
theorem lvalue_eq {p n : Nat} (hp : 2 ≤ p ∧ p ≤ 1000) {f : Poly} {pt : List Int} (h : Pol p n f) (h2 : Pw p n pt) (hn : n ≤ 1000) : F__law_value [nD p, pD f, iD pt] = some (.int (val p f pt)) := by
  unfold F__law_value
  simp_arith []
  generalize hl : loop _ _ _ _ = o
  obtain ⟨e, rfl, s4, s5, rfl⟩ := loop_p hl (fun l env => ∃ s4 s5, env = [.val (nD p), .val (pD f), .val (iD pt), .val (.int (l.map fun r => r.2 * (mon r.1 pt % (p : Int))).sum), s4, s5])
    ⟨_, _, rfl⟩ (by
      rintro l r e hr _ ⟨s4, s5, rfl⟩
      have h1 := lpower_value_eq hp (h r hr).1 h2 hn
      have h3 := emod_bd (mon r.1 pt) hp
      refine stp (by simp_arith [h1]; rfl) ?_
      exact ⟨_, _, by rw [sum_snoc]⟩)
  simp_arith []
  rfl

theorem tuples_eq {p n : Nat} (h : Sh p n) : F_tuples_of [nD p, nD n] = some (.lst ((pts p n).map iD)) := by
  have hb := h.bd
  unfold F_tuples_of
  simp_arith []
  generalize hl : loop _ _ _ _ = o
  obtain ⟨e, rfl, s3, rfl⟩ := loop_o hl (fun i e => ∃ s3 : DSlot, e = [.val (nD p), .val (nD n), .val (.lst ((pts p i).map iD)), s3, .no, .no])
    ⟨.no, rfl⟩ (by
      rintro i k e hk ⟨s3, rfl⟩
      have hi : i < n := by
        have := (List.getElem?_eq_some_iff.mp hk).1
        simpa using this
      have hz := pts_sz h (i + 1) (by omega)
      have e1 : lc2Run (gD (.n 4)) (gD (.n 5)) (iRng (one1 (aC (var 0) aN))) (op2 addD (var 4) (tupE (aC (var 5) aN))) [5] [.val (nD p), .val (nD n), .val (.lst ((pts p i).map iD)), .val (nD k), .no, .no] ((pts p i).map iD) = some ((pts p (i + 1)).map iD) :=
        lc2Run_m (enc1 := fun (k : Nat) => D.int (k : Int)) (fun _ => List.range p) (fun q (k : Nat) => q ++ [(k : Int)]) fun q hq => ⟨_, by simp_arith []; rfl, by simp_arith [], by simp_arith [], fun k hk => by
          have h1 := (pts_pw q hq).1
          simp_arith []⟩
      refine stp (by simp_arith [e1]; rfl) ?_
      exact ⟨_, rfl⟩)
  simp_arith []

theorem met_spF {p : Nat} {ns f ds} : metD [("Space", f)] "points" ds (spcD p ns) = f (spcD p ns :: ds) := by
  simp only [metD, spcD]; rw [if_neg (by decide)]; rfl
theorem space_points_eq {p n : Nat} {ns : List Str} (h : Sh p n) (hn : ns.length = n) : F_Space_points [spcD p ns] = some (.lst ((pts p n).map iD)) := by
  have e1 := tuples_eq h
  unfold F_Space_points
  simp_arith [sp_prime, sp_count, hn, e1]

theorem raised_eq {p : Nat} (hp : 2 ≤ p ∧ p ≤ 1000) (x : Int) {e : Int} (he : 0 ≤ e ∧ e < 1000) : F_raised_number [nD p, .int x, .int e] = some (.int (x ^ e.toNat % (p : Int))) := by
  unfold F_raised_number
  simp_arith []
  generalize hl : loop _ _ _ _ = o
  obtain ⟨e, rfl, s4, rfl⟩ := loop_o hl (fun i env => ∃ s4, env = [.val (nD p), .val (.int x), .val (.int e), .val (.int (x ^ i % (p : Int))), s4])
    ⟨_, by rw [Int.pow_zero, one_mod hp.1]⟩ (by
      rintro i k e hk ⟨s4, rfl⟩
      have h1 := emod_bd (x ^ i) hp
      refine stp (by simp_arith [modmul]; rfl) ?_
      exact ⟨_, by rw [Int.pow_succ]⟩)
  simp_arith []
theorem value_of_eq {p n : Nat} {ns : List Str} (hp : 2 ≤ p ∧ p ≤ 1000) {pw pt : List Int} (h : Pw p n pw) : F_value_of [spcD p ns, iD pw, iD pt] = some (.int (mon pw pt % (p : Int))) := by
  unfold F_value_of
  simp_arith [zipD_ints]
  generalize hl : loop _ _ _ _ = o
  obtain ⟨e, rfl, s4, s5, rfl⟩ := loop_p hl (fun l env => ∃ s4 s5, env = [.val (spcD p ns), .val (iD pw), .val (iD pt), .val (.int (monL l % (p : Int))), s4, s5])
    ⟨_, _, by rw [monL, List.foldl_nil, one_mod hp.1]⟩ (by
      rintro l q e hq _ ⟨s4, s5, rfl⟩
      have hq1 : q.1 ∈ pw := (List.of_mem_zip (a := q.1) (b := q.2) hq).1
      have hq2 := h.2 _ hq1
      have h1 := emod_bd (monL l) hp
      have h2 := raised_eq hp q.2 (e := q.1) (by omega)
      refine stp (by simp_arith [sp_prime, h2, modmul, mulmod]; rfl) ?_
      exact ⟨_, _, by rw [monL_snoc]⟩)
  simp_arith []
  rfl

theorem numbers_of_eq {p : Nat} (h : PP p) {vs : List Int} (hv : vs.length = p) : ∃ N : List Int, F_numbers_of [nD p, .lst (vs.map .int)] = some (.lst (N.map .int)) ∧ N.length = p ∧ ∀ e < p, N.getD e 0 % (p : Int) = ((List.range p).map fun j : Nat => wt p (e : Int) (j : Int) * vs.getD j 0).sum % (p : Int) := by
  have hp := h.bd
  have g0 : vs[0]? = some (vs[0]'(by omega)) := List.getElem?_eq_getElem _
  have hr : ((p : Int) - 1).toNat = p - 1 := by omega
  have e0 : ((List.range p).map fun j : Nat => wt p ((0 : Nat) : Int) (j : Int) * vs.getD j 0).sum = vs[0]'(by omega) := by
    have : ((List.range p).map fun j : Nat => wt p ((0 : Nat) : Int) (j : Int) * vs.getD j 0).sum = ((List.range (p - 1 + 1)).map fun j : Nat => wt p ((0 : Nat) : Int) (j : Int) * vs.getD j 0).sum := by
      rw [show p - 1 + 1 = p by omega]
    rw [this, List.range_succ_eq_map, List.map_cons, List.sum_cons, List.map_map]
    have z : ((List.range (p - 1)).map ((fun j : Nat => wt p ((0 : Nat) : Int) (j : Int) * vs.getD j 0) ∘ Nat.succ)).sum = ((List.range (p - 1)).map fun _ : Nat => (0 : Int)).sum := sum_cong fun j _ => by
      show (if ((0 : Nat) : Int) = 0 then if ((j.succ : Nat) : Int) = 0 then (1 : Int) else 0 else _) * _ = 0
      rw [if_pos (show ((0 : Nat) : Int) = 0 from rfl), if_neg (by omega), Int.zero_mul]
    rw [z, sum_zero]
    simp [wt, List.getD_eq_getElem?_getD, g0]
  unfold F_numbers_of
  simp_arith [g0, rngL_i, hr]
  generalize hl : loop _ _ _ _ = o
  obtain ⟨e, rfl, N, s3, s4, s5, rfl, hN, hc⟩ := loop_o hl (fun i env => ∃ (N : List Int) (s3 s4 s5 : DSlot), env = [.val (nD p), .val (.lst (vs.map .int)), .own (.lst (N.map .int)), s3, s4, s5] ∧ N.length = i + 1 ∧ ∀ e < i + 1, N.getD e 0 % (p : Int) = ((List.range p).map fun j : Nat => wt p (e : Int) (j : Int) * vs.getD j 0).sum % (p : Int))
    ⟨[vs[0]'(by omega)], _, _, _, rfl, rfl, fun e he => by
      have : e = 0 := by omega
      subst this
      rw [e0]; rfl⟩ (by
      rintro i k e hk ⟨N, s3, s4, s5, rfl, hN, hc⟩
      have hi : k = i ∧ i < p - 1 := by
        obtain ⟨h1, h2⟩ := List.getElem?_eq_some_iff.mp hk
        rw [List.getElem_range] at h2
        exact ⟨h2.symm, by simpa using h1⟩
      obtain ⟨rfl, hi⟩ := hi
      simp_arith []
      generalize hl : loop _ _ _ _ = o
      obtain ⟨e, rfl, s5, rfl⟩ := loop_o hl (fun i env => ∃ s5, env = [.val (nD p), .val (.lst (vs.map .int)), .own (.lst (N.map .int)), .val (.int (1 + (k : Int))), .val (.int ((List.range i).map fun j : Nat => vs.getD j 0 * ((j : Int) ^ (p - 1 - (k + 1)) % (p : Int))).sum), s5])
        ⟨_, rfl⟩ (by
          rintro j t e ht ⟨s5, rfl⟩
          have hj : t = j ∧ j < p := by
            obtain ⟨h1, h2⟩ := List.getElem?_eq_some_iff.mp ht
            rw [List.getElem_range] at h2
            exact ⟨h2.symm, by simpa using h1⟩
          obtain ⟨rfl, hj⟩ := hj
          have gj : vs[t]? = some (vs[t]'(by omega)) := List.getElem?_eq_getElem (by omega)
          have e1 := raised_eq (p := p) (by omega) (t : Int) (e := (p : Int) - 1 - (1 + (k : Int))) (by omega)
          have e2 : ((p : Int) - 1 - (1 + (k : Int))).toNat = p - 1 - (k + 1) := by omega
          rw [e2] at e1
          have b1 := emod_bd ((t : Int) ^ (p - 1 - (k + 1))) (p := p) (by omega)
          have e8 : ((List.range (t + 1)).map fun j : Nat => vs.getD j 0 * ((j : Int) ^ (p - 1 - (k + 1)) % (p : Int))).sum = ((List.range t).map fun j : Nat => vs.getD j 0 * ((j : Int) ^ (p - 1 - (k + 1)) % (p : Int))).sum + (vs[t]'(by omega)) * ((t : Int) ^ (p - 1 - (k + 1)) % (p : Int)) := by
            rw [List.range_succ, List.map_append, List.sum_append]
            simp [List.getD_eq_getElem?_getD, gj]
          refine stp (by simp_arith [gj, e1]; rfl) ?_
          exact ⟨_, by rw [e8]⟩)
      rw [List.length_range]
      refine stp (by simp_arith [negD]; rfl) ?_
      refine ⟨N ++ [-(((List.range p).map fun j : Nat => vs.getD j 0 * ((j : Int) ^ (p - 1 - (k + 1)) % (p : Int))).sum) % (p : Int)], _, _, _, by rw [List.map_append], by rw [List.length_append, hN, List.length_singleton], fun e he => ?_⟩
      by_cases h1 : e < k + 1
      · have e3 := hc e h1
        rw [← e3]
        simp [List.getD_eq_getElem?_getD, List.getElem?_append_left (show e < N.length by omega)]
      · have h2 : e = k + 1 := by omega
        subst h2
        have e4 : (N ++ [-(((List.range p).map fun j : Nat => vs.getD j 0 * ((j : Int) ^ (p - 1 - (k + 1)) % (p : Int))).sum) % (p : Int)]).getD (k + 1) 0 = -(((List.range p).map fun j : Nat => vs.getD j 0 * ((j : Int) ^ (p - 1 - (k + 1)) % (p : Int))).sum) % (p : Int) := by
          rw [List.getD_eq_getElem?_getD, List.getElem?_append_right (by omega), hN]; simp
        rw [e4, Int.emod_emod]
        have e5 : -(((List.range p).map fun j : Nat => vs.getD j 0 * ((j : Int) ^ (p - 1 - (k + 1)) % (p : Int))).sum) = ((List.range p).map fun j : Nat => (-1) * (vs.getD j 0 * ((j : Int) ^ (p - 1 - (k + 1)) % (p : Int)))).sum := by
          rw [sum_mulL]; omega
        rw [e5]
        refine sum_congM fun j _ => ?_
        have e6 : wt p ((k + 1 : Nat) : Int) (j : Int) = -((j : Int) ^ (p - 1 - (k + 1))) := by
          unfold wt
          rw [if_neg (by omega), Int.toNat_natCast]
        rw [e6]
        have e7 : -((j : Int) ^ (p - 1 - (k + 1))) * vs.getD j 0 = (-1) * (vs.getD j 0 * (j : Int) ^ (p - 1 - (k + 1))) := by
          rw [Int.neg_mul, Int.mul_comm]; omega
        rw [e7]
        exact em_mul rfl (mulmod _ _ _))
  rw [List.length_range] at hN hc
  refine ⟨N, by simp_arith [], by omega, fun e he => hc e (by omega)⟩


theorem cut_take {α : Type} {l : List α} {i : Nat} (h : i ≤ l.length) : cut l none (some (i : Int)) = l.take i := by
  have e : ¬ ((i : Int) < 0) := by omega
  simp only [cut, six, if_neg e, List.drop_zero, Int.toNat_natCast, Nat.sub_zero]
  rw [Nat.min_eq_left h]
theorem cut_drop {α : Type} {l : List α} {i : Nat} (h : i ≤ l.length) : cut l (some (i : Int)) none = l.drop i := by
  have e : ¬ ((i : Int) < 0) := by omega
  simp only [cut, six, if_neg e, Int.toNat_natCast]
  rw [Nat.min_eq_left h, List.take_of_length_le (by rw [List.length_drop]; omega)]
theorem set_pw {p n i : Nat} {x : List Int} (h : Pw p n x) {j : Int} (hj : 0 ≤ j ∧ j < (p : Int)) : Pw p n (x.set i j) := by
  refine ⟨by rw [List.length_set]; exact h.1, fun y hy => ?_⟩
  rcases List.mem_or_eq_of_mem_set hy with hy | rfl
  · exact h.2 y hy
  · exact hj
theorem set_set_ {x : List Int} {i : Nat} {a b : Int} : (x.set i a).set i b = x.set i b := by rw [List.set_set]
theorem getD_set {x : List Int} {i : Nat} {a : Int} (h : i < x.length) : (x.set i a).getD i 0 = a := by
  simp [List.getD_eq_getElem?_getD, h]
def Frs (p n : Nat) (S : List Int → Int) (i : Nat) (l : List (List Int)) (m : Poly) : Prop :=
  NK m ∧ (∀ r ∈ m, Pw p n r.1) ∧ (∀ k v, m.lookup k = some v → v % (p : Int) = S k % (p : Int)) ∧ ∀ k, Pw p n k → k.set i 0 ∈ l → (m.lookup k).isSome = true
theorem Frs.len {p n : Nat} {S : List Int → Int} {i : Nat} {l : List (List Int)} {m : Poly} (h : Frs p n S i l m) : m.length ≤ (pts p n).length := by
  have := nodup_le (l := m.map (·.1)) (m := pts p n) (show (m.map (·.1)).Nodup from h.1) fun k hk => by
    obtain ⟨r, hr, rfl⟩ := List.mem_map.mp hk
    exact mem_pts (h.2.1 r hr)
  simpa using this
theorem polynomial_of_eq {p n : Nat} {ns : List Str} (h : Sh p n) (hn : ns.length = n) {vs : List Int} (hv : vs.length = (pts p n).length) : ∃ G, F_polynomial_of [spcD p ns, .lst (vs.map .int)] = some (pD G) ∧ Can p n G ∧ ∀ k, Pw p n k → ws (dl k) G % (p : Int) = ((pts p n).map fun y => WT p k y * (((pts p n).zip vs).lookup y).getD 0).sum % (p : Int) := by
  have hb := h.bd
  have hp := h.pp
  have hs := h.small
  have h1 := space_points_eq h hn
  have kz : ((pts p n).zip vs).map (·.1) = pts p n := List.map_fst_zip (by omega)
  have nkz : NK ((pts p n).zip vs) := by unfold NK; rw [kz]; exact pts_nodup n
  have hz := zipDc_m (ks := pts p n) (vs := vs) (by omega)
  rw [putL_id (f := (pts p n).zip vs) (a := []) (by simpa using nkz), List.nil_append] at hz
  generalize hT : (fun y => (((pts p n).zip vs).lookup y).getD 0) = T
  have hTe : ∀ y, (((pts p n).zip vs).lookup y).getD 0 = T y := fun y => by rw [← hT]
  have all0 : (∀ r ∈ (pts p n).zip vs, Pw p n r.1) ∧ (∀ k, Pw p n k → (((pts p n).zip vs).lookup k).isSome = true) ∧ ∀ k v, ((pts p n).zip vs).lookup k = some v → v % (p : Int) = SSv p T 0 k % (p : Int) := by
    refine ⟨fun r hr => pts_pw _ (List.of_mem_zip (a := r.1) (b := r.2) hr).1, fun k hk => ?_, fun k v e => ?_⟩
    · obtain ⟨v, h2, _⟩ := lookup_mem (m := (pts p n).zip vs) (k := k) (by rw [kz]; exact mem_pts hk)
      rw [h2]; rfl
    · show v % _ = T k % _
      rw [← hTe, e]; rfl
  unfold F_polynomial_of
  simp_arith [met_spF, h1, hz, sp_count, hn]
  generalize hl : loop _ _ _ _ = o
  obtain ⟨e, rfl, m, s3, s4, s5, s6, s7, s8, rfl, _, hN, hK, hA, hS⟩ := loop_o hl (fun i env => ∃ (m : Poly) (s3 s4 s5 s6 s7 s8 : DSlot), env = [.val (spcD p ns), .val (.lst (vs.map .int)), .val (dcD m), s3, s4, s5, s6, s7, s8, .no] ∧ noO (some s7) = true ∧ NK m ∧ (∀ r ∈ m, Pw p n r.1) ∧ (∀ k, Pw p n k → (m.lookup k).isSome = true) ∧ ∀ k v, m.lookup k = some v → v % (p : Int) = SSv p T i k % (p : Int))
    ⟨_, _, _, _, _, _, _, rfl, rfl, nkz, all0⟩ (by
      rintro i k e hk ⟨m, s3, s4, s5, s6, s7, s8, rfl, h7, hN, hK, hA, hS⟩
      have hi : k = i ∧ i < n := by
        obtain ⟨h1, h2⟩ := List.getElem?_eq_some_iff.mp hk
        rw [List.getElem_range] at h2
        exact ⟨h2.symm, by simpa using h1⟩
      obtain ⟨rfl, hi⟩ := hi
      simp_arith [met_spF, h1]
      generalize hl : loop _ _ _ _ = o
      obtain ⟨e, rfl, f, s5, s6, s7, s8, rfl, h7, hF⟩ := loop_p hl (fun l env => ∃ (f : Poly) (s5 s6 s7 s8 : DSlot), env = [.val (spcD p ns), .val (.lst (vs.map .int)), .val (dcD m), .val (nD k), .own (dcD f), s5, s6, s7, s8, .no] ∧ noO (some s7) = true ∧ Frs p n (SSv p T (k + 1)) k l f)
        ⟨[], _, _, _, _, rfl, h7, by simp [NK], by simp, by simp, by simp⟩ (by
          rintro l x e hx hlt ⟨f, s5, s6, s7, s8, rfl, h7, hF⟩
          have hxw := pts_pw x hx
          have hxl := hxw.1
          have gx : x[k]? = some (x[k]'(by omega)) := List.getElem?_eq_getElem _
          have gb := hxw.2 _ (List.getElem_mem (show k < x.length by omega))
          generalize hy : x[k]'(by omega) = y at gx gb
          by_cases hy0 : y = 0
          · subst hy0
            have hx0 : x.set k 0 = x := by rw [← hy]; exact List.set_getElem_self _
            have k1 : ((k : Int) + 1) = ((k + 1 : Nat) : Int) := by push_cast; rfl
            have c1 : cut (x.map D.int) none (some (k : Int)) = (x.take k).map D.int := by rw [cut_map, cut_take (by omega)]
            have c2 : cut (x.map D.int) (some ((k : Int) + 1)) none = (x.drop (k + 1)).map D.int := by rw [k1, cut_map, cut_drop (by omega)]
            have e1 : lcRun (gD (.n 9)) yes (op2 addD (op2 addD (slE slcT (var 5) prN (prt (var 3))) (tupE (aC (var 9) aN))) (slE slcT (var 5) (prt (op2 addD (var 3) (cst (.int 1)))) prN)) [.val (spcD p ns), .val (.lst (vs.map .int)), .val (dcD m), .val (nD k), .own (dcD f), .val (iD x), s6, s7, s8, .no] ((List.range p).map fun (j : Nat) => D.int (j : Int)) = some (((List.range p).map fun j : Nat => x.set k (j : Int)).map iD) :=
              lcRun_m (fun j : Nat => x.set k (j : Int)) fun j hj => by
                have e2 : x.take k ++ [(j : Int)] ++ x.drop (k + 1) = x.set k (j : Int) := by
                  rw [List.set_eq_take_append_cons_drop, if_pos (by omega)]; simp
                have t1 : (x.take k).length ≤ 10 := by rw [List.length_take]; omega
                have t2 : (x.drop (k + 1)).length ≤ 10 := by rw [List.length_drop]; omega
                simp_arith [slcT_t, c1, c2, e2]
            have lk : ∀ j < p, ∃ v, m.lookup (x.set k (j : Int)) = some v := fun j hj => Option.isSome_iff_exists.mp (hA _ (set_pw hxw (by omega)))
            have e3 : lcRun (gD (.n 7)) yes (op2 getK (var 2) (var 7)) [.val (spcD p ns), .val (.lst (vs.map .int)), .val (dcD m), .val (nD k), .own (dcD f), .val (iD x), .val (.lst (((List.range p).map fun j : Nat => x.set k (j : Int)).map iD)), .no, s8, .no] (((List.range p).map fun j : Nat => x.set k (j : Int)).map iD) = some ((((List.range p).map fun j : Nat => x.set k (j : Int)).map fun r => (m.lookup r).getD 0).map .int) :=
              lcRun_m (fun r => (m.lookup r).getD 0) fun r hr => by
                obtain ⟨j, hj, rfl⟩ := List.mem_map.mp hr
                obtain ⟨v, hv⟩ := lk j (List.mem_range.mp hj)
                simp_arith [getK_m, hv]
            obtain ⟨N, hNe, hNl, hNc⟩ := numbers_of_eq hp (vs := ((List.range p).map fun j : Nat => x.set k (j : Int)).map fun r => (m.lookup r).getD 0) (by simp)
            have ez : (((List.range p).map fun j : Nat => x.set k (j : Int)).map iD).zip (N.map D.int) = (((List.range p).map fun j : Nat => x.set k (j : Int)).zip N).map fun q => (iD q.1, D.int q.2) := by rw [List.zip_map]; rfl
            have ez2 : ((((List.range p).map fun j : Nat => x.set k (j : Int)).zip N).map fun q => (iD q.1, D.int q.2)).map (fun p => D.tup [p.1, p.2]) = (((List.range p).map fun j : Nat => x.set k (j : Int)).zip N).map rowD := by rw [List.map_map]; rfl
            have hzl : ∀ xs ys : List D, zipD [.lst xs, .lst ys] = some ((xs.zip ys).map fun p => .tup [p.1, p.2]) := fun _ _ => rfl
            simp_arith [gx, sp_prime, e1, h7, e3, hNe, hzl, ez, ez2]
            generalize hl : loop _ _ _ _ = o
            obtain ⟨e, rfl, f2, s7, s8, rfl, h7, hF2, hC⟩ := loop_o hl (fun i env => ∃ (f2 : Poly) (s7 s8 : DSlot), env = [.val (spcD p ns), .val (.lst (vs.map .int)), .val (dcD m), .val (nD k), .own (dcD f2), .val (iD x), .val (.lst (((List.range p).map fun j : Nat => x.set k (j : Int)).map iD)), s7, s8, .no] ∧ noO (some s7) = true ∧ Frs p n (SSv p T (k + 1)) k l f2 ∧ ∀ j < i, j < p → (f2.lookup (x.set k (j : Int))).isSome = true)
              ⟨f, _, _, rfl, h7, hF, fun j hj _ => absurd hj (by omega)⟩ (by
                rintro j q e hq ⟨f2, s7, s8, rfl, h7, hF2, hC⟩
                have hj : j < p := by
                  have := (List.getElem?_eq_some_iff.mp hq).1
                  rw [List.length_zip, List.length_map, List.length_range, hNl] at this
                  omega
                obtain ⟨q1, q2⟩ := List.getElem?_zip_eq_some.mp hq
                rw [List.getElem?_map, List.getElem?_range hj, Option.map_some] at q1
                have q1 : q.1 = x.set k (j : Int) := (Option.some.inj q1).symm
                have q3 : N.getD j 0 = q.2 := by rw [List.getD_eq_getElem?_getD, q2]; rfl
                have hl2 := hF2.len
                refine stp (by simp_arith [stK_m]; rfl) ?_
                have key : q.2 % (p : Int) = SSv p T (k + 1) q.1 % (p : Int) := by
                  rw [← q3, hNc j hj, SSv]
                  refine sum_congM fun t ht => ?_
                  have ht := List.mem_range.mp ht
                  rw [q1, getD_set (by omega), set_set_]
                  refine em_mul rfl ?_
                  obtain ⟨v, hv⟩ := lk t ht
                  have e5 : (((List.range p).map fun j : Nat => x.set k (j : Int)).map fun r => (m.lookup r).getD 0).getD t 0 = v := by
                    simp [List.getD_eq_getElem?_getD, List.getElem?_range ht, hv]
                  rw [e5]
                  exact hS _ _ hv
                refine ⟨_, _, _, rfl, rfl, ⟨put_nk hF2.1, fun r hr => ?_, fun a v e => ?_, fun a ha1 ha2 => ?_⟩, fun t ht htp => ?_⟩
                · rcases put_mem hr with rfl | hr
                  · rw [q1]; exact set_pw hxw (by omega)
                  · exact hF2.2.1 r hr
                · rw [put_look] at e
                  split at e
                  · rename_i h70
                    cases e
                    rw [h70]; exact key
                  · exact hF2.2.2.1 a v e
                · rw [put_look]
                  split
                  · rfl
                  · exact hF2.2.2.2 a ha1 ha2
                · rw [put_look]
                  split
                  · rfl
                  · rename_i h70
                    rcases Nat.lt_succ_iff_lt_or_eq.mp ht with h8 | h8
                    · exact hC t h8 htp
                    · exact absurd (by rw [h8]; exact q1.symm) h70)
            have hzlen : (((List.range p).map fun j : Nat => x.set k (j : Int)).zip N).length = p := by rw [List.length_zip, List.length_map, List.length_range, hNl, Nat.min_self]
            rw [hzlen] at hC
            refine stp (by simp_arith []; rfl) ?_
            refine ⟨_, _, _, _, _, rfl, h7, hF2.1, hF2.2.1, hF2.2.2.1, fun a ha1 ha2 => ?_⟩
            rcases List.mem_append.mp ha2 with h70 | h70
            · exact hF2.2.2.2 a ha1 h70
            · have h8 : a.set k 0 = x := List.mem_singleton.mp h70
              have al := ha1.1
              have ga := ha1.2 _ (List.getElem_mem (show k < a.length by omega))
              generalize hak : a[k]'(by omega) = ak at ga
              have h9 : x.set k ((ak.toNat : Nat) : Int) = a := by
                rw [← h8, set_set_, Int.toNat_of_nonneg ga.1, ← hak]
                exact List.set_getElem_self _
              have h10 := hC ak.toNat (by omega) (by omega)
              rw [h9] at h10
              exact h10
          · have hy' : y = 0 ↔ False := iff_false_intro hy0
            refine stp (by simp_arith [gx, hy']; rfl) ?_
            refine ⟨_, _, _, _, _, rfl, h7, hF.1, hF.2.1, hF.2.2.1, fun a ha1 ha2 => ?_⟩
            rcases List.mem_append.mp ha2 with h70 | h70
            · exact hF.2.2.2 a ha1 h70
            · have h8 : a.set k 0 = x := List.mem_singleton.mp h70
              have al := ha1.1
              refine absurd ?_ hy0
              have h9 : (a.set k 0)[k]? = some 0 := by simp [al, hi]
              rw [h8, gx] at h9
              exact Option.some.inj h9)
      refine stp (by simp_arith []; rfl) ?_
      refine ⟨_, _, _, _, _, _, _, rfl, h7, hF.1, hF.2.1, fun a ha => hF.2.2.2 a ha (mem_pts (set_pw ha (by omega))), hF.2.2.1⟩)
  rw [List.length_range] at hS
  have e1 := from_eq (p := p) (by omega) (ns := ns) (m := m) (by
    have := nodup_le (l := m.map (·.1)) (m := pts p n) (show (m.map (·.1)).Nodup from hN) fun k hk => by
      obtain ⟨r, hr, rfl⟩ := List.mem_map.mp hk
      exact mem_pts (hK r hr)
    simp at this; omega) (fun r hr => (hK r hr).ne (by omega)) hN
  refine ⟨mk p m, by simp_arith [e1], mk_can (by omega) hK hN, fun k hk => ?_⟩
  obtain ⟨v, hv⟩ := Option.isSome_iff_exists.mp (hA k hk)
  have hmem : (k, v) ∈ m := by
    obtain ⟨v', h2, h3⟩ := lookup_mem (m := m) (k := k) (by
      have : ¬ m.lookup k = none := by rw [hv]; simp
      rw [look_none] at this
      exact Classical.not_not.mp this)
    rw [hv] at h2; cases h2; exact h3
  rw [ws_mk hN]
  have e2 : ws (dl k) m = v := cf_mem (r := (k, v)) hN hmem
  rw [e2, hS k v hv, SSv_full hk]
  simp only [hTe]

theorem lconstant_eq {p n : Nat} (hp : 1 ≤ p ∧ p ≤ 1000) (hn : 1 ≤ n ∧ n ≤ 1000) (k : Int) : F__law_constant [nD p, nD n, .int k] = some (pD (mk p [(List.replicate n 0, k)])) := by
  have e1 := made_eq hp hn.1 (m := [(List.replicate n 0, k)]) (by simp) (by
    intro r hr
    rw [List.mem_singleton.mp hr]
    exact Pw.zero hp.1)
  unfold F__law_constant
  simp only [dcD, List.map_cons, List.map_nil] at e1
  simp -implicitDefEqProofs (disch := first | omega | (simp only [List.length_map, List.length_cons, List.length_nil, List.length_append, List.length_range, List.length_replicate]; omega)) only [sq_e, sqK_nx, sqK_ret, sqK_bk, sqK_ct, skip_e, setE_e, newE_e, rt_e, brk_e, cnt_e, ifS_e, ifK_t, ifK_f, ifX_t, ifX_f, ifT_t, ifT_f, fncK_ret, fncK_nx, ctK_nx, ctK_ct, ctK_ret, lcK_e, lstK_e, tupK_e, tupK_f, tupK_cat, ftupD_lst, ftupE_e, lenD_f, getD_f, addD_ff, blK_e, ovK_e, vaK_e, ife_e, var_e, ovar_e, cst_e, op1_e, op2_e, op3_e, aN_e, aC_e, tupE_e, lstE_e, cal_e, f1_e, cmp_e, flip_e, neg_e, chn_e, boo_e, tes_e, ff_e, tt_e, andT_e, orT_e, notT_e, fX_e, tX_e, andV_e, orV_e, notV_e, isN_e, yes_e, asg_e, gD_n, gD_t, gDs_n, gDs_c, frz_e, mov_e, movO_e, forE_e, iLst_e, iTp_e, iRng_e, one1_c, two2_c, iZp_e, lcE_e, lc2E_e, wip_n, wip_c, noOwn_n, noOwn_c, noO_no, noO_val, fnc_e, ini_e, met_e, fld_e, slE_e, prK_e, prt_e, prN_e, dic1_e, appK_e, app_e, extK_e, ext_e, stK_e, drpA_e, drpK_e, addD_int, addD_tup, addD_lst, subD_int, modD_int, divD_int, intD_int, intD_bl, ltD_int, leD_int, eqD_int, eqD_bl, lenD_lst, lenD_tup, lenD_scr, tupD_lst, listD_lst, listD_tup, revL_lst, isBool_bl, max2_int, isBD_bl, revT_tup, iEnum_e, iItm_e, iSq_e, isC_i, isLst_l, addI_int, subI_int, iZm_e, seqK_t, seqK_l, dcE_e, getD_l, getD_t, getD_s, rngL_n, rngL_i, rngL_2, sumL_ints, sumT_tup, sumT_lst, allL_bls, anyL_bls, lcT_t, lcT_f, set_0, set_s, szL_le, szL_lt, Option.bind_some, Option.map_some, List.map_cons, List.map_nil, List.length_cons, List.length_nil, List.length_map, List.length_range, List.getElem?_cons_zero, List.getElem?_cons_succ, List.getElem?_map, List.replicate_succ, List.replicate_zero, List.cons_append, List.nil_append, if_true, if_false, ite_true, ite_false, Bool.and_true, Bool.true_and, Bool.and_self, and_true, true_and, and_self, decide_true, decide_false, Bool.not_true, Bool.not_false, eq_self, Int.toNat_natCast, Int.toNat_zero, Nat.reduceAdd, Nat.reduceSub, Nat.reduceLeDiff, Nat.reduceMul, Nat.reduceEqDiff, Int.reduceToNat, Nat.zero_add, Nat.reduceLT, Int.reduceLT, Int.reduceLE, Int.reduceEq, Int.reduceNe, Int.reduceMul, Int.reduceAdd, Int.reducePow, Bool.false_eq_true, reduceCtorEq, not_true_eq_false, not_false_eq_true, ne_eq, Option.getD_some, if_pos, List.length_append, List.length_replicate, msI, maI, msT, maT, msP, maR, mulD_t, keyD_iD, e1]

theorem lplus_d {p : Nat} (hp : 1 ≤ p) {f g : Poly} {d1 d2 d : D} (hd : addD d1 d2 = some d) (ht : tupK d = some ((f ++ g).map rowD)) (hk : ∀ r ∈ f ++ g, r.1 ≠ []) (hl : f.length + g.length ≤ 1000) : F__law_plus [nD p, d1, d2] = some (pD (mk p (addM (f ++ g)))) := by
  unfold F__law_plus
  simp_arith [hd, ht]
  generalize hl : loop _ _ _ _ = o
  obtain ⟨e, rfl, s4, s5, rfl⟩ := loop_p hl (fun l env => ∃ s4 s5, env = [.val (nD p), .val d1, .val d2, .own (dcD (addM l)), s4, s5])
    ⟨_, _, rfl⟩ (by
      rintro l r e hr hlt ⟨s4, s5, rfl⟩
      have h1 := addM_len l
      have h2 : l.length < 1000 := by rw [List.length_append] at hlt; omega
      refine stp (by simp_arith [imm_e, getK2_m, imm_int, stK_m]; rfl) ?_
      exact ⟨_, _, by rw [addM_snoc]⟩)
  have h1 := addM_len (f ++ g)
  rw [List.length_append] at h1
  have e1 := made_g hp (m := addM (f ++ g)) (by omega) (addM_key (P := fun k => k ≠ []) _ hk)
  simp_arith [e1]
theorem lscaled_eq {p n : Nat} (hp : 2 ≤ p ∧ p ≤ 1000) {f : Poly} (hf : Can p n f) (hfl : f.length ≤ 1000) (c : Int) : F__law_scaled [nD p, pD f, .int c] = some (pD (mk p (scal f c))) := by
  have e1 : lcRun (gD (.t [(.n 4), (.n 5)])) yes (tupE (aC (var 4) (aC (op2 modD (cal (f1 intD) (aC (op2 mulD (var 5) (var 2)) aN)) (var 0)) aN))) [.val (nD p), .val (pD f), .val (.int c), .no, .no, .no, .no] (f.map rowD) = some ((f.map fun r => (r.1, r.2 * c % (p : Int))).map rowD) :=
    lcRun_m (enc := rowD) (enc' := rowD) (fun r : List Int × Int => (r.1, r.2 * c % (p : Int))) fun r hr => by
      have h1 := hf.1 r hr
      have hr4 : -18446744073709551616 < r.2 ∧ r.2 < 18446744073709551616 := by omega
      simp_arith []
  have e2 : lcRun (gD (.n 6)) (cmp (neg eqD) (op2 getD (var 6) (cst (.int 1))) (cst (.int 0))) (var 6) [.val (nD p), .val (pD f), .val (.int c), .val (.lst ((f.map fun r => (r.1, r.2 * c % (p : Int))).map rowD)), .no, .no, .no] ((f.map fun r => (r.1, r.2 * c % (p : Int))).map rowD) = some ((((f.map fun r => (r.1, r.2 * c % (p : Int))).filter fun r => r.2 ≠ 0).map id).map rowD) :=
    lcRun_f (enc := rowD) (enc' := rowD) (fun r : List Int × Int => decide (r.2 ≠ 0)) id fun r hr => by
      by_cases h : r.2 = 0
      · simp_arith [h]
      · have h2 : r.2 = 0 ↔ False := iff_false_intro h
        simp_arith [h2, id]
  rw [List.map_id] at e2
  have e3 := lscal_eq (c := c) (show 0 < p by omega) hf
  unfold lscal at e3
  rw [e3] at e2
  unfold F__law_scaled
  simp_arith [e1, e2]
def qD (e : Bool × Poly) : D := match e.1 with
  | true => pT e.2
  | false => pD e.2
theorem tupK_q (e : Bool × Poly) : tupK (qD e) = some (e.2.map rowD) := by
  obtain ⟨b, f⟩ := e
  cases b <;> rfl
theorem plain_q {n : Nat} (e : Bool × Poly) : (qD e).plain (n + 3) = true := by
  obtain ⟨b, f⟩ := e
  cases b
  · exact plain_pD f
  · exact plain_pD (n := n) f
theorem plain_qs (l : List (Bool × Poly)) : (D.lst (l.map qD)).plain 60 = true := by
  simp only [D.plain]
  exact plains_all fun d hd => by
    obtain ⟨x, _, rfl⟩ := List.mem_map.mp hd
    exact plain_q (n := 56) x
theorem sum_snocq {α : Type} {f : α → Int} {l : List α} {r : α} : ((l ++ [r]).map f).sum = (l.map f).sum + f r := by simp
theorem lvalue_d {p n : Nat} (hp : 2 ≤ p ∧ p ≤ 1000) {f : Poly} {d : D} (hd : tupK d = some (f.map rowD)) {pt : List Int} (h : Pol p n f) (h2 : Pw p n pt) (hn : n ≤ 1000) : F__law_value [nD p, d, iD pt] = some (.int (val p f pt)) := by
  unfold F__law_value
  simp_arith [hd]
  generalize hl : loop _ _ _ _ = o
  obtain ⟨e, rfl, s4, s5, rfl⟩ := loop_p hl (fun l env => ∃ s4 s5, env = [.val (nD p), .val d, .val (iD pt), .val (.int (l.map fun r => r.2 * (mon r.1 pt % (p : Int))).sum), s4, s5])
    ⟨_, _, rfl⟩ (by
      rintro l r e hr _ ⟨s4, s5, rfl⟩
      have h1 := lpower_value_eq hp (h r hr).1 h2 hn
      have h3 := emod_bd (mon r.1 pt) hp
      refine stp (by simp_arith [h1]; rfl) ?_
      exact ⟨_, _, by rw [sum_snocq]⟩)
  simp_arith []
  rfl
theorem value_d {p n : Nat} {ns : List Str} (hp : 2 ≤ p ∧ p ≤ 1000) {f : Poly} {d : D} (hd : tupK d = some (f.map rowD)) {pt : List Int} (h : Pol p n f) (hf : f.length ≤ 1000) : F_value [spcD p ns, d, iD pt] = some (.int (val p f pt)) := by
  have e1 : lcRun (gD (.t [(.n 3), (.n 4)])) yes (op2 mulD (var 4) (cal F_value_of (aC (var 0) (aC (var 3) (aC (var 2) aN))))) [.val (spcD p ns), .val d, .val (iD pt), .no, .no] (f.map rowD) = some ((f.map fun r => r.2 * (mon r.1 pt % (p : Int))).map .int) :=
    lcRun_m (fun r : List Int × Int => r.2 * (mon r.1 pt % (p : Int))) fun r hr => by
      have h1 := value_of_eq (ns := ns) (pt := pt) hp (h r hr).1
      have h2 := emod_bd (mon r.1 pt) hp
      simp_arith [h1]
  unfold F_value
  simp_arith [hd, e1, sp_prime]
  rfl

theorem lminus_d {p n : Nat} (hp : 2 ≤ p ∧ p ≤ 1000) (hn : 1 ≤ n) {f g : Poly} {e : Bool × Poly} (he : e.2 = f) (hf : Can p n f) (hg : Can p n g) (hfl : f.length ≤ 400) (hgl : g.length ≤ 400) : F__law_minus [nD p, qD e, pD g] = some (pD (subP p f g)) := by
  have e1 := lscaled_eq hp hg (by omega) ((p : Int) - 1)
  have c1 := scl_can (c := (p : Int) - 1) (show 0 < p by omega) hg
  have l1 : (mk p (scal g ((p : Int) - 1))).length ≤ 400 := Nat.le_trans mk_len (by rw [scal_len]; exact hgl)
  obtain ⟨d, a1, a2⟩ : ∃ d, addD (qD e) (pD (mk p (scal g ((p : Int) - 1)))) = some d ∧ tupK d = some ((f ++ mk p (scal g ((p : Int) - 1))).map rowD) := by
    obtain ⟨b, f'⟩ := e
    subst he
    have hsz : ((f'.map rowD).length + ((mk p (scal g ((p : Int) - 1))).map rowD).length ≤ szL) = True := szL_le (by rw [List.length_map, List.length_map]; have : f'.length ≤ 400 := hfl; omega)
    cases b with
    | false => exact ⟨_, addD_ff (by rw [List.length_map, List.length_map]; have : f'.length ≤ 400 := hfl; omega), by rw [tupK_cat, List.map_append]⟩
    | true =>
      by_cases hz : (f'.map rowD).isEmpty = true
      · refine ⟨.ftup ((mk p (scal g ((p : Int) - 1))).map rowD), ?_, ?_⟩
        · simp only [qD, pT, addD, hsz, if_true, hz]
        · have : f' = [] := by
            cases f' with
            | nil => rfl
            | cons => cases hz
          subst this; rfl
      · refine ⟨.tup (f'.map rowD ++ (mk p (scal g ((p : Int) - 1))).map rowD), ?_, by rw [List.map_append]; rfl⟩
        simp only [qD, pT, addD, hsz, if_true]
        rw [if_neg hz]
  have e2 := lplus_d (p := p) (f := f) (g := mk p (scal g ((p : Int) - 1))) (by omega) a1 a2 (fun r hr => by
    rcases List.mem_append.mp hr with hr | hr
    · exact (hf.pol.pw r hr).ne hn
    · exact (c1.pol.pw r hr).ne hn) (by omega)
  unfold F__law_minus
  simp_arith [e1, e2]
  rfl
theorem can_filter {p n : Nat} {f : Poly} (h : Can p n f) (t : List Int × Int → Bool) : Can p n (f.filter t) := ⟨fun r hr => h.1 r (List.mem_filter.mp hr).1, h.2.filter _⟩
theorem lequations_eq {p n : Nat} (h : Sh p n) (c : Int) : ∃ es : List (Bool × Poly), F__law_equations [nD p, nD n, .int c] = some (.lst (es.map qD)) ∧ (∀ e ∈ es, Can p n e.2) ∧ es.length ≤ 4 := by
  have hb := h.bd
  have hs := h.small
  obtain ⟨L, hL, hLl, hLb⟩ := digits_eq c 5040 16 (by omega) (by omega)
  have hL : F__law_digits [.int c, .int 5040, .int 16] = some (.lst (L.map .int)) := hL
  have hd : ∀ t, t < 16 → L[t]? = some (L.getD t 0) := fun t ht => by
    rw [List.getD_eq_getElem?_getD, List.getElem?_eq_getElem (by omega)]; rfl
  have hpt := points_eq h
  have hpos : 0 < (pts p n).length := by
    rw [pts_len]; exact Nat.pos_of_ne_zero (by have := Nat.pow_pos (n := n) (show 0 < p by omega); omega)
  obtain ⟨x, hx, hxm⟩ : ∃ x, (pts p n)[(L.getD 0 0 % ((pts p n).length : Int)).toNat]? = some x ∧ Pw p n x := by
    have r1 := Int.emod_nonneg (L.getD 0 0) (show ((pts p n).length : Int) ≠ 0 by omega)
    have r2 := Int.emod_lt_of_pos (L.getD 0 0) (show (0 : Int) < ((pts p n).length : Int) by omega)
    have tn : ∀ z : Int, 0 ≤ z → z < ((pts p n).length : Int) → z.toNat < (pts p n).length := fun z h1 h2 => by omega
    have hi := tn _ r1 r2
    exact ⟨_, List.getElem?_eq_getElem hi, pts_pw _ (List.getElem_mem hi)⟩
  have r1 := Int.emod_nonneg (L.getD 0 0) (show ((pts p n).length : Int) ≠ 0 by omega)
  obtain ⟨i7, hi7, hi77⟩ := emod_nat (L.getD 1 0) (m := 7) (by omega)
  have hi7 : L.getD 1 0 % 7 = (i7 : Int) := hi7
  obtain ⟨m, hm, hm4⟩ : ∃ m : Nat, ([.int 0, .int 1, .int 2, .int 2, .int 3, .int 1, .int 4] : List D)[i7]? = some (nD m) ∧ m ≤ 4 := by
    have : i7 = 0 ∨ i7 = 1 ∨ i7 = 2 ∨ i7 = 3 ∨ i7 = 4 ∨ i7 = 5 ∨ i7 = 6 := by omega
    rcases this with rfl | rfl | rfl | rfl | rfl | rfl | rfl
    · exact ⟨0, rfl, by omega⟩
    · exact ⟨1, rfl, by omega⟩
    · exact ⟨2, rfl, by omega⟩
    · exact ⟨2, rfl, by omega⟩
    · exact ⟨3, rfl, by omega⟩
    · exact ⟨1, rfl, by omega⟩
    · exact ⟨4, rfl, by omega⟩
  have d0 := hd 0 (by omega)
  have d1 := hd 1 (by omega)
  have d10 := hd 10 (by omega)
  have d11 := hd 11 (by omega)
  unfold F__law_equations
  simp_arith [hL, hpt, d0, hx, d1, hi7, hm]
  generalize hl : loop _ _ _ _ = o
  obtain ⟨e, rfl, es, s7, s8, hes, hel, rfl⟩ := loop_o hl (fun i env => ∃ (es : List (Bool × Poly)) (s7 s8 : DSlot), (∀ e ∈ es, Can p n e.2) ∧ es.length = i ∧ env = [.val (nD p), .val (nD n), .val (.int c), .val (.lst (L.map .int)), .val (.lst ((pts p n).map iD)), .val (iD x), .own (.lst (es.map qD)), s7, s8, .no, .no])
    ⟨[], _, _, fun e he => by simp at he, rfl, rfl⟩ (by
      rintro i k e hk ⟨es, s7, s8, hes, hel, rfl⟩
      obtain ⟨rfl, hkm⟩ : k = i ∧ i < m := by
        obtain ⟨h1, h2⟩ := List.getElem?_eq_some_iff.mp hk
        simp at h1 h2; omega
      have q2 : 2 + 2 * (k : Int) = ((2 + 2 * k : Nat) : Int) := by push_cast; rfl
      have q3 : 3 + 2 * (k : Int) = ((3 + 2 * k : Nat) : Int) := by push_cast; rfl
      have d2 := hd (2 + 2 * k) (by omega)
      have d3 := hd (3 + 2 * k) (by omega)
      obtain ⟨f, hf1, hfc, hfl⟩ := drawn_eq h (L.getD (2 + 2 * k) 0 + 5040 * L.getD (3 + 2 * k) 0)
      have esl : (es.map qD).length = k := by rw [List.length_map]; exact hel
      have mq : ∀ e : Bool × Poly, es.map qD ++ [qD e] = (es ++ [e]).map qD := fun e => by simp
      have fin : ∀ e : Bool × Poly, Can p n e.2 → ∀ g ∈ es ++ [e], Can p n g.2 := fun e he g hg => by
        rcases List.mem_append.mp hg with hg | hg
        · exact hes g hg
        · rw [List.mem_singleton.mp hg]; exact he
      -- the filter
      have e1 : ∀ s7 : DSlot, lcRun (gD (.t [(.n 9), (.n 10)])) (cmp ltD (cal (f1 sumT) (aC (var 9) aN)) (cst (.int 2))) (tupE (aC (var 9) (aC (var 10) aN))) [.val (nD p), .val (nD n), .val (.int c), .val (.lst (L.map .int)), .val (.lst ((pts p n).map iD)), .val (iD x), .own (.lst (es.map qD)), s7, .val (pD f), .no, .no] (f.map rowD) = some ((f.filter fun r => decide (r.1.sum < 2)).map rowD) := fun s7 =>
        (lcRun_f (enc := rowD) (enc' := rowD) (fun r : List Int × Int => decide (r.1.sum < 2)) id fun r hr => by
          by_cases z : r.1.sum < 2
          · simp_arith [z, lcT_t, id]
          · have z2 : r.1.sum < 2 ↔ False := iff_false_intro z
            simp_arith [z2, lcT_f]).trans (by rw [List.map_id])
      have cst' : ∀ v : Int, F__law_constant [nD p, nD n, .int v] = some (pD (mk p [(List.replicate n 0, v)])) := fun v => lconstant_eq (by omega) (by omega) v
      have cc : ∀ v : Int, Can p n (mk p [(List.replicate n 0, v)]) := fun v => mk_can (by omega) (fun r hr => by rw [List.mem_singleton.mp hr]; exact Pw.zero (by omega)) one_nk
      have mn : ∀ e : Bool × Poly, Can p n e.2 → ∀ v, F__law_minus [nD p, qD e, pD (mk p [(List.replicate n 0, v)])] = some (pD (subP p e.2 (mk p [(List.replicate n 0, v)]))) := fun e he v =>
        lminus_d (by omega) (by omega) rfl he (cc v) (by have := he.len; omega) (by have := (cc v).len; omega)
      have lv : ∀ e : Bool × Poly, Can p n e.2 → F__law_value [nD p, qD e, iD x] = some (.int (val p e.2 x)) := fun e he => lvalue_d (by omega) (tupK_q e) he.pol hxm (by omega)
      -- behind the filter
      obtain ⟨e', hce, hrun⟩ : ∃ e' : Bool × Poly, Can p n e'.2 ∧ ∀ s7 : DSlot, (ifS (cmp eqD (op2 modD (cal (f1 intD) (aC (op2 getD (var 3) (cst (.int 10))) aN)) (cst (.int 4))) (cst (.int 1)))
      (setE 8 (op1 tupD (lcE (iTp (var 8)) (.t [(.n 9), (.n 10)]) (cmp ltD (cal (f1 sumT) (aC (var 9) aN)) (cst (.int 2))) (tupE (aC (var 9) (aC (var 10) aN))) [9, 10])))
      skip) [.val (nD p), .val (nD n), .val (.int c), .val (.lst (L.map .int)), .val (.lst ((pts p n).map iD)), .val (iD x), .own (.lst (es.map qD)), s7, .val (pD f), .no, .no] = some (.nx [.val (nD p), .val (nD n), .val (.int c), .val (.lst (L.map .int)), .val (.lst ((pts p n).map iD)), .val (iD x), .own (.lst (es.map qD)), s7, .val (qD e'), .no, .no]) := by
        by_cases z : L.getD 10 0 % 4 = 1
        · refine ⟨(true, f.filter fun r => decide (r.1.sum < 2)), can_filter hfc _, fun s7 => ?_⟩
          simp_arith [d10, z, e1 s7]
          rfl
        · refine ⟨(false, f), hfc, fun s7 => ?_⟩
          have z2 : L.getD 10 0 % 4 = 1 ↔ False := iff_false_intro z
          simp_arith [d10, z2]
          rfl
      by_cases z : 0 < L.getD 11 0 % 4
      · have l1 := lv e' hce
        have l2 := cst' (val p e'.2 x)
        have l3 := mn e' hce (val p e'.2 x)
        have esz : ((es.map qD).length < szL) = True := szL_lt (by rw [List.length_map]; omega)
        refine ⟨_, by simp -implicitDefEqProofs (disch := first | omega | (simp only [List.length_map, List.length_cons, List.length_nil, List.length_append, List.length_range, List.length_replicate]; omega)) only [sq_e, sqK_nx, sqK_ret, sqK_bk, sqK_ct, skip_e, setE_e, newE_e, rt_e, brk_e, cnt_e, ifK_t, ifK_f, ifX_t, ifX_f, ifT_t, ifT_f, fncK_ret, fncK_nx, ctK_nx, ctK_ct, ctK_ret, lcK_e, lstK_e, tupK_e, tupK_f, tupK_cat, ftupD_lst, ftupE_e, lenD_f, getD_f, addD_ff, blK_e, ovK_e, vaK_e, ife_e, var_e, ovar_e, cst_e, op1_e, op2_e, op3_e, aN_e, aC_e, tupE_e, lstE_e, cal_e, f1_e, cmp_e, flip_e, neg_e, chn_e, boo_e, tes_e, ff_e, tt_e, andT_e, orT_e, notT_e, fX_e, tX_e, andV_e, orV_e, notV_e, isN_e, yes_e, asg_e, gD_n, gD_t, gDs_n, gDs_c, frz_e, mov_e, movO_e, forE_e, iLst_e, iTp_e, iRng_e, one1_c, two2_c, iZp_e, lcE_e, lc2E_e, wip_n, wip_c, noOwn_n, noOwn_c, noO_no, noO_val, fnc_e, ini_e, met_e, fld_e, slE_e, prK_e, prt_e, prN_e, dic1_e, appK_e, app_e, extK_e, ext_e, stK_e, drpA_e, drpK_e, addD_int, addD_tup, addD_lst, subD_int, mulD_l, mulD_r, modD_int, divD_int, intD_int, intD_bl, ltD_int, leD_int, eqD_int, eqD_bl, lenD_lst, lenD_tup, lenD_scr, tupD_lst, listD_lst, listD_tup, revL_lst, isBool_bl, max2_int, isBD_bl, revT_tup, iEnum_e, iItm_e, iSq_e, isC_i, isLst_l, addI_int, subI_int, iZm_e, seqK_t, seqK_l, dcE_e, getD_l, getD_t, getD_s, rngL_n, rngL_i, rngL_2, sumL_ints, sumT_tup, sumT_lst, allL_bls, anyL_bls, lcT_t, lcT_f, set_0, set_s, szL_le, szL_lt, Option.bind_some, Option.map_some, List.map_cons, List.map_nil, List.length_cons, List.length_nil, List.length_map, List.length_range, List.getElem?_cons_zero, List.getElem?_cons_succ, List.getElem?_map, List.replicate_succ, List.replicate_zero, List.cons_append, List.nil_append, if_true, if_false, ite_true, ite_false, Bool.and_true, Bool.true_and, Bool.and_self, and_true, true_and, and_self, decide_true, decide_false, Bool.not_true, Bool.not_false, eq_self, Int.toNat_natCast, Int.toNat_zero, Nat.reduceAdd, Nat.reduceSub, Nat.reduceLeDiff, Nat.reduceMul, Nat.reduceEqDiff, Int.reduceToNat, Nat.zero_add, Nat.reduceLT, Int.reduceLT, Int.reduceLE, Int.reduceEq, Int.reduceNe, Int.reduceMul, Int.reduceAdd, Int.reducePow, Bool.false_eq_true, reduceCtorEq, not_true_eq_false, not_false_eq_true, ne_eq, Option.getD_some, if_pos, List.length_append, List.length_replicate, msI, maI, msT, maT, msP, maR, d2, d3, q2, q3, hf1, hrun]; simp_arith [d11, z, l1, l2, l3, esz]; rfl, es ++ [(false, subP p e'.2 (mk p [(List.replicate n 0, val p e'.2 x)]))], _, _, fin _ (sub_can (by omega) hce (cc _)), by rw [List.length_append, hel]; rfl, by rw [← mq]; rfl⟩
      · have z2 : 0 < L.getD 11 0 % 4 ↔ False := iff_false_intro z
        have esz : ((es.map qD).length < szL) = True := szL_lt (by rw [List.length_map]; omega)
        refine ⟨_, by simp -implicitDefEqProofs (disch := first | omega | (simp only [List.length_map, List.length_cons, List.length_nil, List.length_append, List.length_range, List.length_replicate]; omega)) only [sq_e, sqK_nx, sqK_ret, sqK_bk, sqK_ct, skip_e, setE_e, newE_e, rt_e, brk_e, cnt_e, ifK_t, ifK_f, ifX_t, ifX_f, ifT_t, ifT_f, fncK_ret, fncK_nx, ctK_nx, ctK_ct, ctK_ret, lcK_e, lstK_e, tupK_e, tupK_f, tupK_cat, ftupD_lst, ftupE_e, lenD_f, getD_f, addD_ff, blK_e, ovK_e, vaK_e, ife_e, var_e, ovar_e, cst_e, op1_e, op2_e, op3_e, aN_e, aC_e, tupE_e, lstE_e, cal_e, f1_e, cmp_e, flip_e, neg_e, chn_e, boo_e, tes_e, ff_e, tt_e, andT_e, orT_e, notT_e, fX_e, tX_e, andV_e, orV_e, notV_e, isN_e, yes_e, asg_e, gD_n, gD_t, gDs_n, gDs_c, frz_e, mov_e, movO_e, forE_e, iLst_e, iTp_e, iRng_e, one1_c, two2_c, iZp_e, lcE_e, lc2E_e, wip_n, wip_c, noOwn_n, noOwn_c, noO_no, noO_val, fnc_e, ini_e, met_e, fld_e, slE_e, prK_e, prt_e, prN_e, dic1_e, appK_e, app_e, extK_e, ext_e, stK_e, drpA_e, drpK_e, addD_int, addD_tup, addD_lst, subD_int, mulD_l, mulD_r, modD_int, divD_int, intD_int, intD_bl, ltD_int, leD_int, eqD_int, eqD_bl, lenD_lst, lenD_tup, lenD_scr, tupD_lst, listD_lst, listD_tup, revL_lst, isBool_bl, max2_int, isBD_bl, revT_tup, iEnum_e, iItm_e, iSq_e, isC_i, isLst_l, addI_int, subI_int, iZm_e, seqK_t, seqK_l, dcE_e, getD_l, getD_t, getD_s, rngL_n, rngL_i, rngL_2, sumL_ints, sumT_tup, sumT_lst, allL_bls, anyL_bls, lcT_t, lcT_f, set_0, set_s, szL_le, szL_lt, Option.bind_some, Option.map_some, List.map_cons, List.map_nil, List.length_cons, List.length_nil, List.length_map, List.length_range, List.getElem?_cons_zero, List.getElem?_cons_succ, List.getElem?_map, List.replicate_succ, List.replicate_zero, List.cons_append, List.nil_append, if_true, if_false, ite_true, ite_false, Bool.and_true, Bool.true_and, Bool.and_self, and_true, true_and, and_self, decide_true, decide_false, Bool.not_true, Bool.not_false, eq_self, Int.toNat_natCast, Int.toNat_zero, Nat.reduceAdd, Nat.reduceSub, Nat.reduceLeDiff, Nat.reduceMul, Nat.reduceEqDiff, Int.reduceToNat, Nat.zero_add, Nat.reduceLT, Int.reduceLT, Int.reduceLE, Int.reduceEq, Int.reduceNe, Int.reduceMul, Int.reduceAdd, Int.reducePow, Bool.false_eq_true, reduceCtorEq, not_true_eq_false, not_false_eq_true, ne_eq, Option.getD_some, if_pos, List.length_append, List.length_replicate, msI, maI, msT, maT, msP, maR, d2, d3, q2, q3, hf1, hrun]; simp_arith [d11, z2, esz]; rfl, es ++ [e'], _, _, fin _ hce, by rw [List.length_append, hel]; rfl, by rw [← mq]⟩)
  simp_arith []
  refine ⟨es, rfl, hes, ?_⟩
  rw [hel]; simp; omega

def syQ (p : Nat) (ns : List Str) (es : List (Bool × Poly)) : D := .ins "System" ["space", "equations"] [spcD p ns, .lst (es.map qD)]
theorem syq_space {p : Nat} {ns es} : attr ["System"] "space" (syQ p ns es) = some (spcD p ns) := by
  simp only [attr, syQ]; rw [if_pos (by decide)]; rfl
theorem syq_equations {p : Nat} {ns es} : attr ["System"] "equations" (syQ p ns es) = some (.lst (es.map qD)) := by
  simp only [attr, syQ]; rw [if_pos (by decide)]; rfl
theorem systemq_made {p : Nat} {ns : List Str} {es : List (Bool × Poly)} : isIns "System" F_System___init__ [spcD p ns, .lst (es.map qD)] = some (syQ p ns es) := by
  have n1 : ("space" : Str) ≠ "equations" := by decide
  have h : F_System___init__ [spcD p ns, .lst (es.map qD)] = some (syQ p ns es) := by
    unfold F_System___init__
    simp_arith [setF_e, setFK_e, putF_n, putF_c n1, iniK_ok]
    rfl
  simp only [isIns, h, Option.bind_some]; rfl
def allq (p : Nat) (es : List Poly) (x : List Int) : Bool := (es.map fun f => decide (val p f x = 0)).all id
theorem lsolutions_eq {p n : Nat} (h : Sh p n) {es : List (Bool × Poly)} (hes : ∀ e ∈ es, Can p n e.2) (hl : es.length ≤ 1000) : F__law_solutions [nD p, nD n, .lst (es.map qD)] = some (.lst (((pts p n).filter (allq p (es.map (·.2)))).map iD)) := by
  have hb := h.bd
  have hs := h.small
  have hpt := points_eq h
  unfold F__law_solutions
  simp_arith [hpt]
  generalize hl2 : loop _ _ _ _ = o
  obtain ⟨e, rfl, s4, rfl⟩ := loop_p hl2 (fun l env => ∃ s4, env = [.val (nD p), .val (nD n), .val (.lst (es.map qD)), .own (.lst ((l.filter (allq p (es.map (·.2)))).map iD)), s4, .no])
    ⟨_, rfl⟩ (by
      rintro l x e hx hlt ⟨s4, rfl⟩
      have hxw : Pw p n x := pts_pw x hx
      have e1 : lcRun (gD (.n 5)) yes (boo (cmp eqD (cal F__law_value (aC (var 0) (aC (var 5) (aC (var 4) aN)))) (cst (.int 0)))) [.val (nD p), .val (nD n), .val (.lst (es.map qD)), .own (.lst ((l.filter (allq p (es.map (·.2)))).map iD)), .val (iD x), .no] (es.map qD) = some (((es.map (·.2)).map fun f => decide (val p f x = 0)).map .bl) :=
        (lcRun_m (enc' := D.bl) (fun e : Bool × Poly => decide (val p e.2 x = 0)) fun e he => by
          have v := lvalue_d (p := p) (n := n) (by omega) (tupK_q e) (hes e he).pol hxw (by omega)
          simp_arith [v]).trans (by rw [List.map_map (l := es) (f := fun e : Bool × Poly => e.2)]; rfl)
      have hfl := List.length_filter_le (allq p (es.map (·.2))) l
      have hll2 : l.length ≤ 100000 := by omega
      cases hz : allq p (es.map (·.2)) x with
      | true =>
        have hz' : ((es.map (·.2)).map fun f => decide (val p f x = 0)).all id = true := hz
        refine stp (by simp_arith [e1, hz']; rfl) ?_
        exact ⟨_, by rw [List.filter_append, List.filter_cons_of_pos hz, List.filter_nil]⟩
      | false =>
        have hz' : ((es.map (·.2)).map fun f => decide (val p f x = 0)).all id = false := hz
        refine stp (by simp_arith [e1, hz']; rfl) ?_
        exact ⟨_, by rw [List.filter_append, List.filter_cons_of_neg (by simp [hz]), List.filter_nil, List.append_nil]⟩)
  simp_arith []
theorem is_solution_q {p n : Nat} {ns : List Str} (hp : 2 ≤ p ∧ p ≤ 1000) {es : List (Bool × Poly)} (hes : ∀ e ∈ es, Can p n e.2 ∧ e.2.length ≤ 1000) (hl : es.length ≤ 1000) (x : List Int) : F_System_is_solution [syQ p ns es, iD x] = some (.bl (allq p (es.map (·.2)) x)) := by
  have e1 : lcRun (gD (.n 2)) yes (boo (cmp eqD (cal F_value (aC (fld ["System"] "space" (var 0)) (aC (var 2) (aC (var 1) aN)))) (cst (.int 0)))) [.val (syQ p ns es), .val (iD x), .no] (es.map qD) = some (((es.map (·.2)).map fun f => decide (val p f x = 0)).map .bl) :=
    (lcRun_m (enc' := D.bl) (fun e : Bool × Poly => decide (val p e.2 x = 0)) fun e he => by
      have h1 := value_d (ns := ns) (pt := x) hp (tupK_q e) (hes e he).1.pol (hes e he).2
      simp_arith [syq_space, h1]).trans (by rw [List.map_map (l := es) (f := fun e : Bool × Poly => e.2)]; rfl)
  unfold F_System_is_solution
  simp_arith [syq_equations, e1]
  rfl
theorem met_syS {p : Nat} {ns es f ds m} (h : m = "is_solution" ∨ m = "solutions") : metD [("System", f)] m ds (syQ p ns es) = f (syQ p ns es :: ds) := by
  simp only [metD, syQ]; rw [if_neg (by rcases h with rfl | rfl <;> decide)]; rfl
theorem solutions_q {p n : Nat} {ns : List Str} (h : Sh p n) (hn : ns.length = n) {es : List (Bool × Poly)} (hes : ∀ e ∈ es, Can p n e.2) (hl : es.length ≤ 1000) : F_System_solutions [syQ p ns es] = some (.lst (((pts p n).filter (allq p (es.map (·.2)))).map iD)) := by
  have hb := h.bd
  have hs := h.small
  have h1 := space_points_eq h hn
  have hes2 : ∀ e ∈ es, Can p n e.2 ∧ e.2.length ≤ 1000 := fun e he => ⟨hes e he, by have := (hes e he).len; omega⟩
  have e1 : lcRun (gD (.n 1)) (tes (met [("System", F_System_is_solution)] "is_solution" (var 0) (aC (var 1) aN))) (var 1) [.val (syQ p ns es), .no] ((pts p n).map iD) = some ((((pts p n).filter (allq p (es.map (·.2)))).map id).map iD) :=
    lcRun_f (enc := iD) (enc' := iD) (allq p (es.map (·.2))) id fun q hq => by
      have h2 := is_solution_q (ns := ns) (by omega) hes2 hl q
      have h3 := met_syS (p := p) (ns := ns) (es := es) (f := F_System_is_solution) (ds := [iD q]) (m := "is_solution") (.inl rfl)
      cases hz : allq p (es.map (·.2)) q with
      | true => rw [hz] at h2; simp_arith [h3, h2, lcT_t, id]
      | false => rw [hz] at h2; simp_arith [h3, h2, lcT_f]
  rw [List.map_id] at e1
  unfold F_System_solutions
  simp_arith [syq_space, met_spF, h1, e1]

theorem plain_intsL (l : List Int) : (D.lst (l.map .int)).plain 60 = true := by
  simp only [D.plain]
  exact plains_all fun d hd => by
    obtain ⟨i, _, rfl⟩ := List.mem_map.mp hd
    simp [D.plain]
theorem ltable_eq {p n : Nat} (h : Sh p n) {f : Poly} (hf : Pol p n f) : F__law_table [nD p, nD n, pD f] = some (.lst (((pts p n).map fun x => val p f x).map .int)) := by
  have hb := h.bd
  have h1 := points_eq h
  have hs := h.small
  have e1 : lcRun (gD (.n 3)) yes (cal F__law_value (aC (var 0) (aC (var 2) (aC (var 3) aN)))) [.val (nD p), .val (nD n), .val (pD f), .no] ((pts p n).map iD) = some (((pts p n).map fun x => val p f x).map .int) :=
    lcRun_m (fun x => val p f x) fun x hx => by
      have v := lvalue_eq (p := p) (n := n) (pt := x) (by omega) hf (pts_pw x hx) (by omega)
      simp_arith [v]
  unfold F__law_table
  simp_arith [h1, e1]
theorem tab_at {p n : Nat} {vs : List Int} (hv : vs.length = (pts p n).length) {i : Nat} (hi : i < (pts p n).length) : (((pts p n).zip vs).lookup ((pts p n)[i])).getD 0 = vs[i]'(by omega) := by
  have kz : ((pts p n).zip vs).map (·.1) = pts p n := List.map_fst_zip (by omega)
  have nkz : NK ((pts p n).zip vs) := by unfold NK; rw [kz]; exact pts_nodup n
  have hm : ((pts p n)[i], vs[i]'(by omega)) ∈ (pts p n).zip vs := by
    rw [List.mem_iff_getElem?]
    exact ⟨i, List.getElem?_zip_eq_some.mpr ⟨List.getElem?_eq_getElem hi, List.getElem?_eq_getElem (by omega)⟩⟩
  rw [look_own nkz _ hm]; rfl
theorem poly_tab {p n : Nat} {ns : List Str} (h : Sh p n) (hn : ns.length = n) {vs : List Int} (hv : vs.length = (pts p n).length) (hvb : ∀ v ∈ vs, 0 ≤ v ∧ v < (p : Int)) : ∃ G, F_polynomial_of [spcD p ns, .lst (vs.map .int)] = some (pD G) ∧ Can p n G ∧ ((pts p n).map fun x => val p G x) = vs := by
  obtain ⟨G, g1, g2, g3⟩ := polynomial_of_eq h hn hv
  refine ⟨G, g1, g2, ?_⟩
  have hp := h.pp
  apply List.ext_getElem
  · simp [hv]
  · intro i h1 h2
    have hi : i < (pts p n).length := by simpa using h1
    rw [List.getElem_map, val_ev, back hp g2.pol.pw g3 (List.getElem_mem hi), tab_at hv hi]
    have := hvb _ (List.getElem_mem h2)
    exact Int.emod_eq_of_lt this.1 this.2

section
variable {p n : Nat} {ns : List Str}
theorem met_spPt {p : Nat} {ns f ds} : metD [("Space", f)] "points" ds (spcD p ns) = f (spcD p ns :: ds) := rfl
theorem flags_eq (h : Sh p n) (hn : ns.length = n) {es : List (Bool × Poly)} (hes : ∀ e ∈ es, Can p n e.2) (hl : es.length ≤ 1000) : F_flags_of [syQ p ns es] = some (.lst (((pts p n).map (allq p (es.map (·.2)))).map .bl)) := by
  have hb := h.bd
  have hs := h.small
  have hpt := space_points_eq h hn
  have hel : ∀ e ∈ es, Can p n e.2 ∧ e.2.length ≤ 1000 := fun e he => ⟨hes e he, by have := (hes e he).len; omega⟩
  have r1 : lcRun (gD (.n 1)) yes (met [("System", F_System_is_solution)] "is_solution" (var 0) (aC (var 1) aN)) [.val (syQ p ns es), .no] ((pts p n).map iD) = some (((pts p n).map (allq p (es.map (·.2)))).map .bl) :=
    lcRun_m (enc' := D.bl) (allq p (es.map (·.2))) fun x hx => by
      have h1 := is_solution_q (n := n) (ns := ns) ⟨by omega, by omega⟩ hel hl x
      have h2 := met_syS (p := p) (ns := ns) (es := es) (f := F_System_is_solution) (ds := [iD x]) (.inl rfl)
      simp_arith [h2, h1]
  have hz : ((pts p n).map iD).length ≤ szL := by rw [List.length_map]; unfold szL; omega
  generalize (pts p n).map iD = PP at *
  unfold F_flags_of
  simp_arith [syq_space, met_spPt, hpt, hz, r1]
def fl01 (b : Bool) : Int := if b then 0 else 1
theorem of_flags_eq (h : Sh p n) (hn : ns.length = n) {bs : List Bool} (hl : bs.length = (pts p n).length) : ∃ G, F_of_flags [spcD p ns, .lst (bs.map .bl)] = some (pD G) ∧ Can p n G ∧ ((pts p n).map fun x => val p G x) = bs.map fl01 := by
  have hb := h.bd
  have hs := h.small
  have r1 : lcRun (gD (.n 2)) yes (cal (f1 intD) (aC (notV (var 2)) aN)) [.val (spcD p ns), .val (.lst (bs.map .bl)), .no] (bs.map .bl) = some ((bs.map fl01).map .int) :=
    lcRun_m (enc := D.bl) (enc' := D.int) fl01 fun b _ => by cases b <;> (simp_arith []; rfl)
  obtain ⟨G, g1, g2, g3⟩ := poly_tab h hn (vs := bs.map fl01) (by rw [List.length_map]; exact hl) fun v hv => by
    obtain ⟨b, _, rfl⟩ := List.mem_map.mp hv
    unfold fl01
    split <;> omega
  refine ⟨G, ?_, g2, g3⟩
  have hz : (bs.map D.bl).length ≤ szL := by rw [List.length_map]; unfold szL; omega
  generalize bs.map D.bl = BB at *
  unfold F_of_flags
  simp_arith [hz, r1, g1]
theorem mark_eq (h : Sh p n) (hn : ns.length = n) {es : List (Bool × Poly)} (hes : ∀ e ∈ es, Can p n e.2) (hl : es.length ≤ 1000) : ∃ G, F_mark [syQ p ns es] = some (pD G) ∧ Can p n G ∧ ((pts p n).map fun x => val p G x) = ((pts p n).map (allq p (es.map (·.2)))).map fl01 := by
  have h1 := flags_eq h hn hes hl
  obtain ⟨G, g1, g2, g3⟩ := of_flags_eq h hn (bs := (pts p n).map (allq p (es.map (·.2)))) (by rw [List.length_map])
  refine ⟨G, ?_, g2, g3⟩
  unfold F_mark
  simp_arith [syq_space, h1, g1]
theorem sol_w {G : Poly} {w : List Int → Bool} (hG : ((pts p n).map fun x => val p G x) = ((pts p n).map w).map fl01) : (pts p n).filter (allq p [G]) = (pts p n).filter w := by
  rw [List.map_map] at hG
  refine List.filter_congr fun x hx => ?_
  have := List.map_inj_left.mp hG x hx
  have this : val p G x = fl01 (w x) := this
  simp only [allq, List.map_cons, List.map_nil, List.all_cons, List.all_nil, Bool.and_true, id]
  rw [this]
  cases w x <;> rfl
abbrev syG (p : Nat) (ns : List Str) (G : Poly) : D := syQ p ns [(false, G)]
theorem zip_bl {α : Type} (a b : α → Bool) : ∀ l : List α, (((l.map a).map D.bl).zip ((l.map b).map D.bl)).map (fun q => D.tup [q.1, q.2]) = l.map fun x => D.tup [.bl (a x), .bl (b x)]
  | [] => rfl
  | x :: l => by
    have ih := zip_bl a b l
    simp only [List.map_cons, List.zip_cons_cons, ih]
theorem zipD_bl {α : Type} (a b : α → Bool) (l : List α) : zipD [.lst ((l.map a).map .bl), .lst ((l.map b).map .bl)] = some (l.map fun x => D.tup [.bl (a x), .bl (b x)]) := by
  rw [← zip_bl]; rfl
def joK : DRes → Option D
  | .ret d => some d
  | _ => none
theorem joiF_e {m : Nat} {b : Sx} {x y : D} : joiF m b [x, y] = (b (.val x :: .val y :: List.replicate (m - 2) .no)).bind joK := rfl
theorem joK_r {d : D} : joK (.ret d) = some d := rfl
theorem wayE_e {db a1 a2 : Ex} {e : DEnv} : wayE db a1 a2 e = (a1 e).bind fun x => (a2 e).bind fun y => db [.val x, .val y] := rfl
theorem sysG_made {G : Poly} : isIns "System" F_System___init__ [spcD p ns, .lst [pD G]] = some (syG p ns G) := systemq_made (es := [(false, G)])
theorem joi_gen (h : Sh p n) (hn : ns.length = n) {e1 e2 : List (Bool × Poly)} (h1 : ∀ e ∈ e1, Can p n e.2) (h2 : ∀ e ∈ e2, Can p n e.2) (l1 : e1.length ≤ 1000) (l2 : e2.length ≤ 1000) (db : Ex) (fb : Bool → Bool → Bool) (hdb : ∀ x y, db [.val (.bl x), .val (.bl y)] = some (.bl (fb x y))) :
    ∃ G, joiF 6 (sq (setE 3 (lcE (iZp (aC (cal F_flags_of (aC (var 0) aN)) (aC (cal F_flags_of (aC (var 1) aN)) aN))) (.t [(.n 4), (.n 5)]) yes (wayE db (var 4) (var 5)) [4, 5]))
    (rt (cal (isIns "System" F_System___init__) (aC (fld ["System"] "space" (var 0)) (aC (lstE (aC (cal F_of_flags (aC (fld ["System"] "space" (var 0)) (aC (var 3) aN))) aN)) aN))))) [syQ p ns e1, syQ p ns e2] = some (syG p ns G) ∧ Can p n G ∧ (pts p n).filter (allq p [G]) = (pts p n).filter fun x => fb (allq p (e1.map (·.2)) x) (allq p (e2.map (·.2)) x) := by
  have hs := h.small
  have f1 := flags_eq h hn h1 l1
  have f2 := flags_eq h hn h2 l2
  generalize hA : allq p (e1.map (·.2)) = A at *
  generalize hB : allq p (e2.map (·.2)) = B at *
  have z := zipD_bl A B (pts p n)
  have r1 : ∀ z3, lcRun (gD (.t [(.n 4), (.n 5)])) yes (wayE db (var 4) (var 5)) [.val (syQ p ns e1), .val (syQ p ns e2), .no, z3, .no, .no] ((pts p n).map fun x => D.tup [.bl (A x), .bl (B x)]) = some (((pts p n).map fun x => fb (A x) (B x)).map .bl) := fun z3 =>
    lcRun_m (enc := fun x => D.tup [.bl (A x), .bl (B x)]) (enc' := D.bl) (fun x => fb (A x) (B x)) fun x _ => by simp_arith [wayE_e, hdb]
  obtain ⟨G, g1, g2, g3⟩ := of_flags_eq h hn (bs := (pts p n).map fun x => fb (A x) (B x)) (by rw [List.length_map])
  refine ⟨G, ?_, g2, sol_w g3⟩
  have hz : ((pts p n).map fun x => D.tup [.bl (A x), .bl (B x)]).length ≤ szL := by rw [List.length_map]; unfold szL; omega
  have m := sysG_made (p := p) (ns := ns) (G := G)
  generalize ((pts p n).map fun x => D.tup [.bl (A x), .bl (B x)]) = ZZ at *
  generalize ((pts p n).map fun x => fb (A x) (B x)).map D.bl = FF at *
  rw [joiF_e]
  show ((sq _ _) [.val (syQ p ns e1), .val (syQ p ns e2), .no, .no, .no, .no]).bind joK = _
  simp_arith [f1, f2, iZp_e, z, hz, r1, syq_space, g1, m, joK_r]
theorem both_eq (h : Sh p n) (hn : ns.length = n) {e1 e2 : List (Bool × Poly)} (h1 : ∀ e ∈ e1, Can p n e.2) (h2 : ∀ e ∈ e2, Can p n e.2) (l1 : e1.length ≤ 1000) (l2 : e2.length ≤ 1000) :
    ∃ G, F_both [syQ p ns e1, syQ p ns e2] = some (syG p ns G) ∧ Can p n G ∧ (pts p n).filter (allq p [G]) = (pts p n).filter fun x => allq p (e1.map (·.2)) x && allq p (e2.map (·.2)) x := by
  obtain ⟨G, g1, g2, g3⟩ := joi_gen h hn h1 h2 l1 l2 (andV (var 0) (var 1)) (fun a b => a && b) fun x y => by cases x <;> cases y <;> rfl
  have g1 : F_joined_both [syQ p ns e1, syQ p ns e2] = some (syG p ns G) := g1
  refine ⟨G, ?_, g2, g3⟩
  unfold F_both
  simp_arith [g1]
theorem either_eq (h : Sh p n) (hn : ns.length = n) {e1 e2 : List (Bool × Poly)} (h1 : ∀ e ∈ e1, Can p n e.2) (h2 : ∀ e ∈ e2, Can p n e.2) (l1 : e1.length ≤ 1000) (l2 : e2.length ≤ 1000) :
    ∃ G, F_either [syQ p ns e1, syQ p ns e2] = some (syG p ns G) ∧ Can p n G ∧ (pts p n).filter (allq p [G]) = (pts p n).filter fun x => allq p (e1.map (·.2)) x || allq p (e2.map (·.2)) x := by
  obtain ⟨G, g1, g2, g3⟩ := joi_gen h hn h1 h2 l1 l2 (orV (var 0) (var 1)) (fun a b => a || b) fun x y => by cases x <;> cases y <;> rfl
  have g1 : F_joined_either [syQ p ns e1, syQ p ns e2] = some (syG p ns G) := g1
  refine ⟨G, ?_, g2, g3⟩
  unfold F_either
  simp_arith [g1]
theorem without_eq (h : Sh p n) (hn : ns.length = n) {e1 e2 : List (Bool × Poly)} (h1 : ∀ e ∈ e1, Can p n e.2) (h2 : ∀ e ∈ e2, Can p n e.2) (l1 : e1.length ≤ 1000) (l2 : e2.length ≤ 1000) :
    ∃ G, F_without [syQ p ns e1, syQ p ns e2] = some (syG p ns G) ∧ Can p n G ∧ (pts p n).filter (allq p [G]) = (pts p n).filter fun x => allq p (e1.map (·.2)) x && !allq p (e2.map (·.2)) x := by
  obtain ⟨G, g1, g2, g3⟩ := joi_gen h hn h1 h2 l1 l2 (andV (var 0) (notV (var 1))) (fun a b => a && !b) fun x y => by cases x <;> cases y <;> rfl
  have g1 : F_joined_without [syQ p ns e1, syQ p ns e2] = some (syG p ns G) := g1
  refine ⟨G, ?_, g2, g3⟩
  unfold F_without
  simp_arith [g1]
theorem opposite_eq (h : Sh p n) (hn : ns.length = n) {e1 : List (Bool × Poly)} (h1 : ∀ e ∈ e1, Can p n e.2) (l1 : e1.length ≤ 1000) :
    ∃ G, F_opposite [syQ p ns e1] = some (syG p ns G) ∧ Can p n G ∧ (pts p n).filter (allq p [G]) = (pts p n).filter fun x => !allq p (e1.map (·.2)) x := by
  have hs := h.small
  have f1 := flags_eq h hn h1 l1
  generalize hA : allq p (e1.map (·.2)) = A at *
  have r1 : lcRun (gD (.n 1)) yes (notV (var 1)) [.val (syQ p ns e1), .no] (((pts p n).map A).map .bl) = some (((pts p n).map fun x => !A x).map .bl) := by
    have := lcRun_m (xs := (pts p n).map A) (g := gD (.n 1)) (a := notV (var 1)) (e0 := [.val (syQ p ns e1), .no]) (enc := D.bl) (enc' := D.bl) (fun b => !b) fun b _ => by cases b <;> rfl
    have e : ((pts p n).map A).map (fun b => !b) = (pts p n).map fun x => !A x := by rw [List.map_map]; rfl
    rw [e] at this
    exact this
  obtain ⟨G, g1, g2, g3⟩ := of_flags_eq h hn (bs := (pts p n).map fun x => !A x) (by rw [List.length_map])
  refine ⟨G, ?_, g2, sol_w g3⟩
  have hz : (((pts p n).map A).map D.bl).length ≤ szL := by rw [List.length_map, List.length_map]; unfold szL; omega
  have m := sysG_made (p := p) (ns := ns) (G := G)
  generalize ((pts p n).map A).map D.bl = ZZ at *
  generalize ((pts p n).map fun x => !A x).map D.bl = FF at *
  unfold F_opposite
  simp_arith [f1, hz, r1, syq_space, g1, m]
end

theorem plain_xs (X : List (List Int)) {n : Nat} : (D.lst (X.map iD)).plain (n + 2) = true := by
  simp only [D.plain]
  exact plains_all fun d hd => by
    obtain ⟨x, _, rfl⟩ := List.mem_map.mp hd
    exact plain_iD (n := n) x
theorem isC_syq {p : Nat} {ns : List Str} {es : List (Bool × Poly)} : isC "System" (syQ p ns es) = some (.bl true) := by unfold syQ; exact isC_i
theorem memF {l : List (List Int)} {w : List Int → Bool} {x : List Int} (hx : x ∈ l) : decide (x ∈ l.filter w) = w x := by
  cases h : w x with
  | true => exact decide_eq_true (List.mem_filter.mpr ⟨hx, h⟩)
  | false => exact decide_eq_false fun z => by rw [(List.mem_filter.mp z).2] at h; cases h
theorem pl_menu : ∀ x ∈ menu, (D.str x).plain 59 = true := by decide +kernel
theorem F_law_true (ns : List Int) (hns : ns.length ≤ 63) : F_law [.scr ns] = some (.bl true) := by
  obtain ⟨p, n, h, hshape⟩ := shape_eq (ns.getD 0 0 % 11)
  have hb := h.bd
  have hs := h.small
  have hpp := h.pp
  obtain ⟨a, b, ha, hb4, hnames⟩ := names_eq (ns.getD 1 0) n (by omega)
  have hspace := space_made h ha hb4
  have hnl : (nms a ([1, 3, 5, 7].getD b 0) n).length = n := nms_len
  have hplN : (D.lst ((nms a ([1, 3, 5, 7].getD b 0) n).map .str)).plain 60 = true := by
    simp only [D.plain]
    exact plains_all fun d hd => by
      obtain ⟨x, hx, rfl⟩ := List.mem_map.mp hd
      exact pl_menu x (nms_mem x hx)
  generalize nms a ([1, 3, 5, 7].getD b 0) n = nm at hnames hspace hnl hplN
  have c0 : F__law_cell [.scr ns, .int 0] = _ := cell_eq ns 0
  have c1 : F__law_cell [.scr ns, .int 1] = _ := cell_eq ns 1
  have c2 : ∀ k : Nat, F__law_cell [.scr ns, .int (2 + (k : Int))] = some (.int (ns.getD (2 + k) 0)) := fun k => by
    have := cell_eq ns (2 + k)
    rw [show ((2 + k : Nat) : Int) = 2 + (k : Int) from by push_cast; rfl] at this
    exact this
  have hI : isIns "Space" F_Space___init__ [nD p, .lst (nm.map .str)] = some (spcD p nm) := by
    simp only [isIns, hspace, Option.bind_some]; rfl
  have hEx : ∀ k : Nat, ∃ es : List (Bool × Poly), F__law_equations [nD p, nD n, .int (ns.getD (2 + k) 0)] = some (.lst (es.map qD)) ∧ (∀ e ∈ es, Can p n e.2) ∧ es.length ≤ 4 := fun k => lequations_eq h _
  obtain ⟨E, hE⟩ := Classical.axiomOfChoice hEx
  have r2 : rngL [.int 2] = some ((List.range 2).map fun (k : Nat) => D.int (k : Int)) := rngL_n (n := 2) (by omega)
  have run2 : lcRun (gD (.n 13)) yes (cal F__law_equations (aC (var 9) (aC (var 10) (aC (cal F__law_cell (aC (var 0) (aC (op2 addD (cst (.int 2)) (var 13)) aN))) aN)))) [.val (.scr ns), .val (.lst (nm.map .str)), .no, .no, .no, .no, .no, .no, .no, .val (nD p), .val (nD n), .no, .no, .no, .no, .no] ((List.range 2).map fun (k : Nat) => D.int (k : Int)) = some (((List.range 2).map E).map fun es => .lst (es.map qD)) :=
    lcRun_m (enc := fun k : Nat => D.int (k : Int)) (enc' := fun es : List (Bool × Poly) => .lst (es.map qD)) E fun k _ => by
      have := (hE k).1
      simp_arith [c2, this]
  have e2 : (((List.range 2).map E).map fun es => D.lst (es.map qD)) = [.lst ((E 0).map qD), .lst ((E 1).map qD)] := rfl
  rw [e2] at run2
  obtain ⟨_, x1, x2⟩ := hE 0
  obtain ⟨_, y1, y2⟩ := hE 1
  generalize E 0 = es at *
  generalize E 1 = fs at *
  have g0 : getD (.lst [.lst (es.map qD), .lst (fs.map qD)]) (.int 0) = some (.lst (es.map qD)) := rfl
  have g1 : getD (.lst [.lst (es.map qD), .lst (fs.map qD)]) (.int 1) = some (.lst (fs.map qD)) := rfl
  have m1 := systemq_made (p := p) (ns := nm) (es := es)
  have m2 := systemq_made (p := p) (ns := nm) (es := fs)
  have so1 := lsolutions_eq h x1 (by omega)
  have so2 := lsolutions_eq h y1 (by omega)
  have hpt := points_eq h
  obtain ⟨GM, a1, a2, a3⟩ := mark_eq h hnl x1 (by omega)
  obtain ⟨GB, b1, b2, b3⟩ := both_eq h hnl x1 y1 (by omega) (by omega)
  obtain ⟨GE, d1, d2, d3⟩ := either_eq h hnl x1 y1 (by omega) (by omega)
  obtain ⟨GW, w1, w2, w3⟩ := without_eq h hnl x1 y1 (by omega) (by omega)
  obtain ⟨GO, o1, o2, o3⟩ := opposite_eq h hnl x1 (by omega)
  have lp : ∀ G, Can p n G → F__law_is_polynomial [nD p, nD n, pD G] = some (.bl true) := fun G hG => by
    have hl := hG.len
    rw [lis_pol_eq (fun r hr => by have := (hG.1 r hr).1.1; omega) (by omega), can_isP hG]
  have lpM := lp GM a2
  have lt := ltable_eq h a2.pol
  rw [a3] at lt
  generalize hA : allq p (es.map (·.2)) = A at *
  generalize hB : allq p (fs.map (·.2)) = B at *
  obtain ⟨P, hP⟩ : ∃ P, P = pts p n := ⟨_, rfl⟩
  have iA : ∀ x ∈ P, decide (x ∈ P.filter A) = A x := fun x hx => memF hx
  have iB : ∀ x ∈ P, decide (x ∈ P.filter B) = B x := fun x hx => memF hx
  have fl0 : (P.map A).map fl01 = P.map fun x => fl01 (A x) := by rw [List.map_map]; rfl
  have fl1 : ((P.map A).map fl01).map D.int = (P.map fun x => fl01 (A x)).map D.int := by rw [fl0]
  have tq : eqD (.lst ((P.map fun x => fl01 (A x)).map D.int)) (.lst ((P.map fun x => fl01 (A x)).map D.int)) = some true := eqD_refl (plain_intsL _)
  have run14a : ∀ z3 z4 z6 z8, lcRun (gD (.n 14)) yes (cal (f1 intD) (aC (boo (cmp (neg inL) (var 14) (var 5))) aN)) [.val (.scr ns), .val (.lst (nm.map .str)), .val (.lst [.lst (es.map qD), .lst (fs.map qD)]), z3, z4, .val (.lst ((P.filter A).map iD)), z6, .val (.lst (P.map iD)), z8, .val (nD p), .val (nD n), .no, .no, .no, .no, .no] (P.map iD) = some ((P.map fun x => fl01 (A x)).map D.int) := fun z3 z4 z6 z8 =>
    lcRun_m (enc' := D.int) (fun x => fl01 (A x)) fun x hx => by
      have i1 : inL (iD x) (.lst ((P.filter A).map iD)) = some (A x) := by rw [inL_pts, iA x hx]
      cases hq : A x <;> rw [hq] at i1 <;> (simp_arith [neg_e, i1]; try rfl)
  have runB : ∀ z3 z4 z7 z8, lcRun (gD (.n 14)) (cmp inL (var 14) (var 6)) (var 14) [.val (.scr ns), .val (.lst (nm.map .str)), .val (.lst [.lst (es.map qD), .lst (fs.map qD)]), z3, z4, .val (.lst ((P.filter A).map iD)), .val (.lst ((P.filter B).map iD)), z7, z8, .val (nD p), .val (nD n), .no, .no, .no, .no, .no] ((P.filter A).map iD) = some ((P.filter fun x => A x && B x).map iD) := fun z3 z4 z7 z8 => by
    rw [show (P.filter fun x => A x && B x) = ((P.filter A).filter B).map id by rw [List.map_id, List.filter_filter]; exact List.filter_congr fun x _ => Bool.and_comm _ _]
    refine lcRun_f (enc' := iD) B id fun x hx => ?_
    have i1 : inL (iD x) (.lst ((P.filter B).map iD)) = some (B x) := by rw [inL_pts, iB x (List.mem_filter.mp hx).1]
    cases hq : B x <;> rw [hq] at i1 <;> (simp_arith [i1]; try rfl)
  have runE : ∀ z3 z4 z8, lcRun (gD (.n 14)) (orT (cmp inL (var 14) (var 5)) (cmp inL (var 14) (var 6))) (var 14) [.val (.scr ns), .val (.lst (nm.map .str)), .val (.lst [.lst (es.map qD), .lst (fs.map qD)]), z3, z4, .val (.lst ((P.filter A).map iD)), .val (.lst ((P.filter B).map iD)), .val (.lst (P.map iD)), z8, .val (nD p), .val (nD n), .no, .no, .no, .no, .no] (P.map iD) = some ((P.filter fun x => A x || B x).map iD) := fun z3 z4 z8 => by
    rw [show (P.filter fun x => A x || B x) = (P.filter fun x => A x || B x).map id by rw [List.map_id]]
    refine lcRun_f (enc' := iD) (fun x => A x || B x) id fun x hx => ?_
    have i1 : inL (iD x) (.lst ((P.filter A).map iD)) = some (A x) := by rw [inL_pts, iA x hx]
    have i2 : inL (iD x) (.lst ((P.filter B).map iD)) = some (B x) := by rw [inL_pts, iB x hx]
    cases hq : A x <;> cases hr : B x <;> rw [hq] at i1 <;> rw [hr] at i2 <;> (simp_arith [i1, i2]; try rfl)
  have runW : ∀ z3 z4 z7 z8, lcRun (gD (.n 14)) (cmp (neg inL) (var 14) (var 6)) (var 14) [.val (.scr ns), .val (.lst (nm.map .str)), .val (.lst [.lst (es.map qD), .lst (fs.map qD)]), z3, z4, .val (.lst ((P.filter A).map iD)), .val (.lst ((P.filter B).map iD)), z7, z8, .val (nD p), .val (nD n), .no, .no, .no, .no, .no] ((P.filter A).map iD) = some ((P.filter fun x => A x && !B x).map iD) := fun z3 z4 z7 z8 => by
    rw [show (P.filter fun x => A x && !B x) = ((P.filter A).filter fun x => !B x).map id by rw [List.map_id, List.filter_filter]; exact List.filter_congr fun x _ => Bool.and_comm _ _]
    refine lcRun_f (enc' := iD) (fun x => !B x) id fun x hx => ?_
    have i1 : inL (iD x) (.lst ((P.filter B).map iD)) = some (B x) := by rw [inL_pts, iB x (List.mem_filter.mp hx).1]
    cases hq : B x <;> rw [hq] at i1 <;> (simp_arith [neg_e, i1]; try rfl)
  have runO : ∀ z3 z4 z6 z8, lcRun (gD (.n 14)) (cmp (neg inL) (var 14) (var 5)) (var 14) [.val (.scr ns), .val (.lst (nm.map .str)), .val (.lst [.lst (es.map qD), .lst (fs.map qD)]), z3, z4, .val (.lst ((P.filter A).map iD)), z6, .val (.lst (P.map iD)), z8, .val (nD p), .val (nD n), .no, .no, .no, .no, .no] (P.map iD) = some ((P.filter fun x => !A x).map iD) := fun z3 z4 z6 z8 => by
    rw [show (P.filter fun x => !A x) = (P.filter fun x => !A x).map id by rw [List.map_id]]
    refine lcRun_f (enc' := iD) (fun x => !A x) id fun x hx => ?_
    have i1 : inL (iD x) (.lst ((P.filter A).map iD)) = some (A x) := by rw [inL_pts, iA x hx]
    cases hq : A x <;> rw [hq] at i1 <;> (simp_arith [neg_e, i1]; try rfl)
  have hPl : P.length ≤ 49 := by rw [hP]; exact hs
  have hPz : (P.map iD).length ≤ szL := by rw [List.length_map]; unfold szL; omega
  have hAl : (P.filter A).length ≤ P.length := List.length_filter_le _ _
  have hAz : ((P.filter A).map iD).length ≤ szL := by rw [List.length_map]; unfold szL; omega
  -- the pairs
  obtain ⟨qs, hqs⟩ : ∃ qs : List (Poly × List (List Int)), qs = [(GB, P.filter fun x => A x && B x), (GE, P.filter fun x => A x || B x), (GW, P.filter fun x => A x && !B x), (GO, P.filter fun x => !A x)] := ⟨_, rfl⟩
  have hls : ([.tup [syG p nm GB, .lst ((P.filter fun x => A x && B x).map iD)], .tup [syG p nm GE, .lst ((P.filter fun x => A x || B x).map iD)], .tup [syG p nm GW, .lst ((P.filter fun x => A x && !B x).map iD)], .tup [syG p nm GO, .lst ((P.filter fun x => !A x).map iD)]] : List D) = qs.map fun q => .tup [syG p nm q.1, .lst (q.2.map iD)] := by rw [hqs]; rfl
  have hall : ∀ q ∈ qs, Can p n q.1 ∧ (pts p n).filter (allq p [q.1]) = q.2 := fun q hq => by
    rw [hqs] at hq
    simp only [List.mem_cons, List.not_mem_nil, or_false] at hq
    rw [hP] at hq
    rcases hq with rfl | rfl | rfl | rfl
    · exact ⟨b2, b3⟩
    · exact ⟨d2, d3⟩
    · exact ⟨w2, w3⟩
    · exact ⟨o2, o3⟩
  rw [← hP] at so1 so2 hpt lt
  rw [fl1] at lt
  have qe := eqD_refl (plain_qs es)
  have qf := eqD_refl (plain_qs fs)
  have qn := eqD_refl hplN
  clear hqs b3 d3 w3 o3 a3 iA iB hA hB
  generalize hPP : P.map iD = PP at *
  generalize (P.filter A).map iD = FA at *
  generalize (P.filter B).map iD = FB at *
  generalize (P.filter fun x => A x && B x).map iD = L1 at *
  generalize (P.filter fun x => A x || B x).map iD = L2 at *
  generalize (P.filter fun x => A x && !B x).map iD = L3 at *
  generalize (P.filter fun x => !A x).map iD = L4 at *
  generalize (P.map fun x => fl01 (A x)).map D.int = LT at *
  unfold F_law
  simp -implicitDefEqProofs (disch := first | omega | (simp only [List.length_map, List.length_cons, List.length_nil, List.length_append, List.length_range, List.length_replicate]; omega)) only [sq_e, sqK_nx, sqK_ret, sqK_bk, sqK_ct, skip_e, setE_e, newE_e, rt_e, brk_e, cnt_e, ifS_e, ifK_t, ifK_f, ifX_t, ifX_f, ifT_t, ifT_f, fncK_ret, fncK_nx, ctK_nx, ctK_ct, ctK_ret, lcK_e, lstK_e, tupK_e, tupK_f, tupK_cat, ftupD_lst, ftupE_e, lenD_f, getD_f, addD_ff, blK_e, ovK_e, vaK_e, ife_e, var_e, ovar_e, cst_e, op1_e, op2_e, op3_e, aN_e, aC_e, tupE_e, lstE_e, cal_e, f1_e, cmp_e, flip_e, neg_e, chn_e, boo_e, tes_e, ff_e, tt_e, andT_e, orT_e, notT_e, fX_e, tX_e, andV_e, orV_e, notV_e, isN_e, yes_e, asg_e, gD_n, gD_t, gDs_n, gDs_c, frz_e, mov_e, movO_e, forE_e, iLst_e, iTp_e, iRng_e, one1_c, two2_c, iZp_e, lcE_e, lc2E_e, wip_n, wip_c, noOwn_n, noOwn_c, noO_no, noO_val, fnc_e, ini_e, met_e, fld_e, slE_e, prK_e, prt_e, prN_e, dic1_e, appK_e, app_e, extK_e, ext_e, stK_e, drpA_e, drpK_e, addD_int, addD_tup, addD_lst, subD_int, mulD_l, mulD_r, modD_int, divD_int, intD_int, intD_bl, ltD_int, leD_int, eqD_int, eqD_bl, lenD_lst, lenD_tup, lenD_scr, tupD_lst, listD_lst, listD_tup, revL_lst, isBool_bl, max2_int, isBD_bl, revT_tup, iEnum_e, iItm_e, iSq_e, isC_i, isLst_l, addI_int, subI_int, iZm_e, seqK_t, seqK_l, dcE_e, getD_t, getD_s, rngL_2, sumL_ints, sumT_tup, sumT_lst, allL_bls, anyL_bls, lcT_t, lcT_f, set_0, set_s, szL_le, szL_lt, Option.bind_some, Option.map_some, List.map_cons, List.map_nil, List.length_cons, List.length_nil, List.length_map, List.length_range, List.getElem?_cons_zero, List.getElem?_cons_succ, List.getElem?_map, List.replicate_succ, List.replicate_zero, List.cons_append, List.nil_append, if_true, if_false, ite_true, ite_false, Bool.and_true, Bool.true_and, Bool.and_self, and_true, true_and, and_self, decide_true, decide_false, Bool.not_true, Bool.not_false, eq_self, Int.toNat_natCast, Int.toNat_zero, Nat.reduceAdd, Nat.reduceSub, Nat.reduceLeDiff, Nat.reduceMul, Nat.reduceEqDiff, Int.reduceToNat, Nat.zero_add, Nat.reduceLT, Int.reduceLT, Int.reduceLE, Int.reduceEq, Int.reduceNe, Int.reduceMul, Int.reduceAdd, Int.reducePow, Bool.false_eq_true, reduceCtorEq, not_true_eq_false, not_false_eq_true, ne_eq, Option.getD_some, if_pos, List.length_append, List.length_replicate, msI, maI, msT, maT, msP, maR, c0, hshape, c1, hnames, r2, run2, hI, g0, g1, m1, m2, so1, so2, hpt, a1, lpM, lt, hPz, run14a, neg_e, tq, b1, hAz, runB, d1, runE, w1, runW, o1, runO, hls]
  generalize hlp : loop _ _ (qs.map fun q => D.tup [syG p nm q.1, .lst (q.2.map iD)]) _ = o
  obtain ⟨e, rfl, t11, t12, t13, t14, t15, h15, rfl⟩ := loop_p hlp (fun _ env => ∃ t11 t12 t13 t14 t15, noO (some t15) = true ∧ env = [.val (.scr ns), .val (.lst (nm.map .str)), .val (.lst [.lst (es.map qD), .lst (fs.map qD)]), .val (syQ p nm es), .val (syQ p nm fs), .val (.lst FA), .val (.lst FB), .val (.lst PP), .val (.lst (qs.map fun q => D.tup [syG p nm q.1, .lst (q.2.map iD)])), .val (nD p), .val (nD n), t11, t12, t13, t14, t15])
    ⟨_, _, _, _, _, rfl, rfl⟩ (by
      rintro l ⟨G, L⟩ e hq _ ⟨t11, t12, t13, t14, t15, h15, rfl⟩
      obtain ⟨k1, k2⟩ := hall _ hq
      have k1 : Can p n G := k1
      have k2 : (pts p n).filter (allq p [G]) = L := k2
      have kl : F__law_solutions [nD p, nD n, .lst [pD G]] = some (.lst (L.map iD)) := by rw [← k2]; exact lsolutions_eq h (es := [(false, G)]) (fun e he => by rw [List.mem_singleton.mp he]; exact k1) (by simp)
      have ks : F_System_solutions [syG p nm G] = some (.lst (L.map iD)) := by rw [← k2]; exact solutions_q h hnl (es := [(false, G)]) (fun e he => by rw [List.mem_singleton.mp he]; exact k1) (by simp)
      have km := met_syS (p := p) (ns := nm) (es := [(false, G)]) (f := F_System_solutions) (ds := []) (m := "solutions") (.inr rfl)
      have km : metD [("System", F_System_solutions)] "solutions" [] (syG p nm G) = F_System_solutions [syG p nm G] := km
      have kq : eqD (.lst (L.map iD)) (.lst (L.map iD)) = some true := eqD_refl (plain_xs L (n := 58))
      have kp := lp G k1
      have ki : isC "System" (syG p nm G) = some (.bl true) := isC_syq
      have k3 : attr ["System"] "space" (syG p nm G) = some (spcD p nm) := syq_space
      have k4 : attr ["System"] "equations" (syG p nm G) = some (.lst [pD G]) := syq_equations
      have r15 : ∀ z11 z12 z13 z14, lcRun (gD (.n 15)) yes (cal F__law_is_polynomial (aC (var 9) (aC (var 10) (aC (var 15) aN)))) [.val (.scr ns), .val (.lst (nm.map .str)), .val (.lst [.lst (es.map qD), .lst (fs.map qD)]), .val (syQ p nm es), .val (syQ p nm fs), .val (.lst FA), .val (.lst FB), .val (.lst PP), .val (.lst (qs.map fun q => D.tup [syG p nm q.1, .lst (q.2.map iD)])), .val (nD p), .val (nD n), z11, z12, z13, z14, .no] [pD G] = some [.bl true] := fun z11 z12 z13 z14 => by
        simp only [lcRun]
        simp_arith [kp]
      have al : allL (.lst [.bl true]) = some (.bl true) := rfl
      have h20 : ((20 : Int) < ((1 : Nat) : Int)) ↔ False := iff_false_intro (by omega)
      generalize syG p nm G = SG at *
      generalize (qs.map fun q => D.tup [syG p nm q.1, .lst (q.2.map iD)]) = QQ at *
      refine stp (e2 := [.val (.scr ns), .val (.lst (nm.map .str)), .val (.lst [.lst (es.map qD), .lst (fs.map qD)]), .val (syQ p nm es), .val (syQ p nm fs), .val (.lst FA), .val (.lst FB), .val (.lst PP), .val (.lst QQ), .val (nD p), .val (nD n), .val SG, .val (.lst (L.map iD)), t13, t14, t15]) (by simp_arith [ki, k3, sp_prime, sp_names, neg_e, qn, k4, h20, h15, r15, al, kl, kq, km, ks]) ?_
      exact ⟨_, _, _, _, _, h15, rfl⟩)
  simp -implicitDefEqProofs (disch := first | omega | (simp only [List.length_map, List.length_cons, List.length_nil, List.length_append, List.length_range, List.length_replicate]; omega)) only [sq_e, sqK_nx, sqK_ret, sqK_bk, sqK_ct, skip_e, setE_e, newE_e, rt_e, brk_e, cnt_e, ifS_e, ifK_t, ifK_f, ifX_t, ifX_f, ifT_t, ifT_f, fncK_ret, fncK_nx, ctK_nx, ctK_ct, ctK_ret, lcK_e, lstK_e, tupK_e, tupK_f, tupK_cat, ftupD_lst, ftupE_e, lenD_f, getD_f, addD_ff, blK_e, ovK_e, vaK_e, ife_e, var_e, ovar_e, cst_e, op1_e, op2_e, op3_e, aN_e, aC_e, tupE_e, lstE_e, cal_e, f1_e, cmp_e, flip_e, neg_e, chn_e, boo_e, tes_e, ff_e, tt_e, andT_e, orT_e, notT_e, fX_e, tX_e, andV_e, orV_e, notV_e, isN_e, yes_e, asg_e, gD_n, gD_t, gDs_n, gDs_c, frz_e, mov_e, movO_e, forE_e, iLst_e, iTp_e, iRng_e, one1_c, two2_c, iZp_e, lcE_e, lc2E_e, wip_n, wip_c, noOwn_n, noOwn_c, noO_no, noO_val, fnc_e, ini_e, met_e, fld_e, slE_e, prK_e, prt_e, prN_e, dic1_e, appK_e, app_e, extK_e, ext_e, stK_e, drpA_e, drpK_e, addD_int, addD_tup, addD_lst, subD_int, mulD_l, mulD_r, modD_int, divD_int, intD_int, intD_bl, ltD_int, leD_int, eqD_int, eqD_bl, lenD_lst, lenD_tup, lenD_scr, tupD_lst, listD_lst, listD_tup, revL_lst, isBool_bl, max2_int, isBD_bl, revT_tup, iEnum_e, iItm_e, iSq_e, isC_i, isLst_l, addI_int, subI_int, iZm_e, seqK_t, seqK_l, dcE_e, getD_t, getD_s, rngL_n, rngL_i, rngL_2, sumL_ints, sumT_tup, sumT_lst, allL_bls, anyL_bls, lcT_t, lcT_f, set_0, set_s, szL_le, szL_lt, Option.bind_some, Option.map_some, List.map_cons, List.map_nil, List.length_cons, List.length_nil, List.length_map, List.length_range, List.getElem?_cons_zero, List.getElem?_cons_succ, List.getElem?_map, List.replicate_succ, List.replicate_zero, List.cons_append, List.nil_append, if_true, if_false, ite_true, ite_false, Bool.and_true, Bool.true_and, Bool.and_self, and_true, true_and, and_self, decide_true, decide_false, Bool.not_true, Bool.not_false, eq_self, Int.toNat_natCast, Int.toNat_zero, Nat.reduceAdd, Nat.reduceSub, Nat.reduceLeDiff, Nat.reduceMul, Nat.reduceEqDiff, Int.reduceToNat, Nat.zero_add, Nat.reduceLT, Int.reduceLT, Int.reduceLE, Int.reduceEq, Int.reduceNe, Int.reduceMul, Int.reduceAdd, Int.reducePow, Bool.false_eq_true, reduceCtorEq, not_true_eq_false, not_false_eq_true, ne_eq, Option.getD_some, if_pos, List.length_append, List.length_replicate, msI, maI, msT, maT, msP, maR, syq_equations, g0, g1, qe, qf]

end PV

open PySem PySem.W PySem.Calls PyProof.Rows
theorem PySem.Challenge.cw_standingpowers_k40_sets_of_points_as_sys_holds : PySem.Challenge.rw_standingpowers_k40_sets_of_points_as_sys.Holds := by
  w_on; o_law
  refine HandSHeadRun.head_any (r := OpenLaw.row PySem.Challenge.rw_standingpowers_k40_sets_of_points_as_sys) (q := view (OpenLaw.row PySem.Challenge.rw_standingpowers_k40_sets_of_points_as_sys).prog [55]) (H := PV.hk) (ob := PV.ob) (M := 5000) (loose := PV.loose) (d := HandSHeadRun.topDef (OpenLaw.row PySem.Challenge.rw_standingpowers_k40_sets_of_points_as_sys).prog 55) (kwd := []) PV.ob_eq
    (by kernel_rfl) (fun s => by kernel_rfl) PV.run (by kernel_rfl) (by kernel_rfl) (by kernel_rfl) (by rfl) (by first | assumption | decide +kernel) (by decide +kernel) ⟨rfl, rfl, rfl, rfl, rfl, by decide +kernel⟩ ?hw ?hc
  case hw => w_witness2
  case hc =>
    refine LamX.walk_ofTsE (l := PySem.Challenge.rw_standingpowers_k40_sets_of_points_as_sys) (n := 63) (k := 11) (x := "_law_script") (CX := fun _ => L2.CX0) rfl (by decide) (by kernel_rfl) ⟨rfl, by decide, by decide⟩ ?F (fun _ _ _ _ _ z => z)
    intro w mg fa h Y G hmg0
    obtain ⟨K0, KX0, c0⟩ := Y
    obtain ⟨c, tb⟩ := PV.obsT_of c0
    have KX := PV.noTab_in (ls := PV.ls) KX0
    letI : PV.LT := PV.ltOf K0 PV.ls
    have hmg : mg ("law" : PySem.Str) = some (.ref fa) := by
      have e : (HandSHeadRun.topDef (OpenLaw.row PySem.Challenge.rw_standingpowers_k40_sets_of_points_as_sys).prog 55).name = ("law" : PySem.Str) := by kernel_rfl
      rw [← e]
      exact hmg0
    have Z := PV.zf_of c KX G
    obtain ⟨fd, F, hF⟩ := PV.ok_law (P := (PySem.Challenge.rw_standingpowers_k40_sets_of_points_as_sys).prog) (w := w) Z
    have e := hmg.symm.trans (Z.glo 66 (x := "law"))
    cases e
    have b := L2.FunD.bindsA (ps := ["_law_script"]) F fun _ _ _ _ _ _ us hl => match us, hl with | [_], _ => rfl
    exact ⟨PV.noTab K0 PV.ls, KX, fd, PV.csOf K0 PV.ls, PV.spD mg PV.F_law, PV.tabs1 tb KX0, PV.tabs2, PV.tabs3 tb KX0, fun s v => b s [v] rfl, fun H a ns hl _ hT hS => PV.law_says (Z.exf 3 (f := PV.noLst)) (PV.F_law_true ns hl) hS (PV.tabs4 hT), fun base _ _ hT => hF base (PV.lb_of tb hT)⟩


