import PyProof.Rows.All
import Wide.All
import OpenK.AllK
import Wide.FinOn
import HandS.ForMost
import KE.SortData
import KE.SortKeyHeap
import KE.DataEq
import HandS.HeadHook2
import HandS.HeadEnd
import HandS.Head2
import HandS.Flow
import HandS.Style
import HandS.TupLe
import HandS.TupAny
import HandS.Deep
import HandS.IsInst
import PyProof.TupleOfSeq
import HandS.Conv
import HandS.Codes
import HandS.Comp
import PyProof.PassesOwn
import HandS.HeadHook1
import PySem.Challenge.RW_toldworlds_k04_whole_states_and_sight
set_option Elab.async false
set_option maxRecDepth 100000
set_option maxHeartbeats 4000000
set_option linter.all false
/-! P1: the plain evaluator: values without a heap, terms, what they come to. -/
namespace Pu
open PySem L2

abbrev D := PyData

/-- a value: shared data, a list of one's own (fresh or in a slot), the same only looked at, a table, the draws -/
inductive Vl where
  | sh (d : D)
  | ow (xs : List D)
  | bw (xs : List D)
  | od (kvs : List (Key × D))
  | bd (kvs : List (Key × D))
  | gen

/-- the draws: a place, the numbers left -/
structure G where
  at_ : Nat
  ns : List Nat
  ne : ns ≠ []

inductive BOp where
  | add | sub | mul | fdiv | mod
  deriving DecidableEq
inductive COp where
  | eq | ne | lt | le | gt | ge | is_ | isn | in_ | nin
  deriving DecidableEq
inductive Bf where
  | len | abs | int | max | min | all | any | list | tuple | sorted
  deriving DecidableEq
inductive Me where
  | get | join | split | index
  deriving DecidableEq
inductive Ty where
  | int | bool | str | tuple | list | dict
  deriving DecidableEq
inductive Tg where
  | nm (i : Nat)
  | tu (is : List Nat)
  deriving DecidableEq

inductive E where
  | nil
  | cons (a b : E)
  | nm (i : Nat)
  | int (i : Int)
  | str (s : Str)
  | bl (b : Bool)
  | non
  | gl (x : Str)
  | tu (es : E)
  | li (es : E)
  | rp (es k : E)
  | di (es : E)
  | bi (op : BOp) (a b : E)
  | neg (a : E)
  | cm (op : COp) (a b : E)
  | ch (o1 o2 : COp) (a b c : E)
  | an (a b : E)
  | or (a b : E)
  | no (a : E)
  | ie (c a b : E)
  | ix (a b : E)
  | sl (a lo hi : E)
  | ca (f : Str) (gi : Option Nat) (es : E)
  | bf (f : Bf) (es : E)
  | me (m : Me) (o es : E)
  | isi (e : E) (t : Ty)
  | r1 (a : E)
  | r2 (a b : E)
  | l1 (a : E)
  | lr (a b : E)
  | lc (tg : Tg) (it c el : E)
  | l2 (tg : Tg) (it c : E) (tg2 : Tg) (it2 c2 el : E)

inductive S where
  | nop
  | seq (a b : S)
  | as_ (i : Nat) (e : E)
  | par (is : List Nat) (es : E)
  | up (is : List Nat) (e : E)
  | if_ (c : E) (a b : S)
  | fo (tg : Tg) (it : E) (b : S)
  | wh (n : Nat) (c : E) (b : S)
  | re (e : E)
  | rn
  | ap (i : Nat) (e : E)
  | ex (i : Nat) (e : E)
  | si (i : Nat) (k e : E)
  | po (i j : Nat)
  | fz (i : Nat)
  | br
  | co

abbrev Env := List (Option Vl)

def Vl.borrow : Vl → Vl
  | .ow xs => .bw xs
  | .od kvs => .bd kvs
  | v => v
/-- as data to be kept: a list of one's own is given up -/
def Vl.share : Vl → Option D
  | .sh d => some d
  | .ow xs => some (.list xs)
  | _ => none
/-- as data to be read -/
def Vl.rd : Vl → Option D
  | .sh d => some d
  | .ow xs => some (.list xs)
  | .bw xs => some (.list xs)
  | _ => none
/-- as a value to be handed back -/
def Vl.back : Vl → Option Vl
  | .sh d => some (.sh d)
  | .ow xs => some (.ow xs)
  | .bw xs => some (.ow xs)
  | _ => none
/-- as a value to be put into a slot -/
def Vl.keep : Vl → Option Vl
  | .sh d => some (.sh d)
  | .ow xs => some (.ow xs)
  | .od kvs => some (.od kvs)
  | _ => none
/-- what is walked -/
def itD : D → Option (List D)
  | .list xs => some xs
  | .tuple xs => some xs
  | _ => none

def dMost : Nat := 100
def eqD (x y : D) : Option Bool := if x.depth ≤ dMost ∨ y.depth ≤ dMost then some (PyData.eqv x y) else none
def inD (x : D) : D → Option Bool
  | .list ys => if x.depth ≤ dMost ∨ PyData.depthAll ys ≤ dMost then some (ys.any fun z => PyData.eqv z x) else none
  | .tuple ys => if x.depth ≤ dMost ∨ PyData.depthAll ys ≤ dMost then some (ys.any fun z => PyData.eqv z x) else none
  | .str b => match x with
    | .str a => some (!(Builtin.Str.occurrences b a 0 b.length 1).isEmpty)
    | _ => none
  | _ => none
def isNone : D → Bool
  | .none => true
  | _ => false
def isD (x : D) : D → Option Bool
  | .none => some (isNone x)
  | .bool b => match x with
    | .bool a => some (a == b)
    | _ => none
  | _ => none
def ltD : COp → D → D → Option Bool
  | .lt, .int i, .int j => some (decide (i < j))
  | .le, .int i, .int j => some (decide (i ≤ j))
  | .gt, .int i, .int j => some (decide (j < i))
  | .ge, .int i, .int j => some (decide (j ≤ i))
  | _, _, _ => none
def cmpD : COp → D → D → Option Bool
  | .eq, x, y => eqD x y
  | .ne, x, y => (eqD x y).map not
  | .in_, x, y => inD x y
  | .nin, x, y => (inD x y).map not
  | .is_, x, y => isD x y
  | .isn, x, y => (isD x y).map not
  | op, x, y => ltD op x y

def rep {α : Type} (n : Nat) (xs : List α) : List α := (List.replicate n xs).flatten
def binD : BOp → D → D → Option Vl
  | .add, .int i, .int j => some (.sh (.int (i + j)))
  | .add, .str x, .str y => if x.length + y.length ≤ sizeLine then some (.sh (.str (x ++ y))) else none
  | .add, .tuple xs, .tuple ys => if xs.length + ys.length ≤ sizeLine then some (.sh (.tuple (xs ++ ys))) else none
  | .add, .list xs, .list ys => if xs.length + ys.length ≤ sizeLine then some (.ow (xs ++ ys)) else none
  | .sub, .int i, .int j => some (.sh (.int (i - j)))
  | .mul, .int i, .int j => if (-18446744073709551616 < i ∧ i < 18446744073709551616) ∨ (-18446744073709551616 < j ∧ j < 18446744073709551616) then some (.sh (.int (i * j))) else none
  | .fdiv, .int i, .int j => if 0 < j ∧ j < 1073741824 then some (.sh (.int (i / j))) else none
  | .mod, .int i, .int j => if 0 < j then some (.sh (.int (i % j))) else none
  | _, _, _ => none

def truD : D → Option Bool
  | .none => some false
  | .bool b => some b
  | .int i => some (i != 0)
  | .list xs => some (!xs.isEmpty)
  | .tuple xs => some (!xs.isEmpty)
  | .str x => if x.length ≤ sizeLine then some ((x.length : Int) != 0) else none
  | _ => none

def ixD : D → D → Option D
  | .list xs, .int i => atI xs i
  | .tuple xs, .int i => atI xs i
  | .str z, .int i => if z.length ≤ sizeLine then (atI z.cps.toList i).map fun c => .str ⟨#[c]⟩ else none
  | _, _ => none
def keyD : D → Option Key
  | .int i => some (.inl i)
  | .str x => some (.inr x)
  | _ => none
def lookD : List (Key × D) → Key → Option D
  | [], _ => none
  | (k, v) :: r, x => if k = x then some v else lookD r x
def putD (kvs : List (Key × D)) (k : Key) (v : D) : List (Key × D) :=
  if (kvs.any fun kv => decide (kv.1 = k)) = true then kvs.map (fun kv => if kv.1 = k then (kv.1, v) else kv) else kvs ++ [(k, v)]
/-- a part of a row -/
def cutD {α : Type} (xs : List α) (lo hi : Option Int) : List α := (xs.drop (HT.sIx xs.length 0 lo)).take (HT.sIx xs.length xs.length hi - HT.sIx xs.length 0 lo)
def slD : D → Option Int → Option Int → Option Vl
  | .list xs, lo, hi => some (.ow (cutD xs lo hi))
  | .tuple xs, lo, hi => some (.sh (.tuple (cutD xs lo hi)))
  | _, _, _ => none

def boolsD : List D → Option (List Bool)
  | [] => some []
  | .bool b :: r => (boolsD r).map (b :: ·)
  | _ :: _ => none
def intsD : List D → Option (List Int)
  | [] => some []
  | .int i :: r => (intsD r).map (i :: ·)
  | _ :: _ => none
def rngD (i j : Int) : List D := (List.range (j - i).toNat).map fun (k : Nat) => PyData.int (i + k)
def rgD : Vl → Vl → Option (List D)
  | .sh (.int i), .sh (.int j) => if -16777216 ≤ i ∧ i ≤ 16777216 ∧ -16777216 ≤ j ∧ j ≤ 16777216 ∧ j - i ≤ 16777216 then some (rngD i j) else none
  | _, _ => none
def alikeL (xs : List D) : Bool := xs.all fun x => xs.all fun y => PySem.W.alike x y
def isTup1 : D → Bool
  | .tuple (_ :: _) => true
  | _ => false
def noTup : D → Bool
  | .tuple _ => false
  | .none => false
  | _ => true
def sortL (xs : List D) : Option (List D) :=
  if alikeL xs = true ∧ (xs.all isTup1 = true ∨ xs.all noTup = true) ∧ PyData.depthAll xs ≤ dMost ∧ xs.length ≤ sizeLine then some (xs.mergeSort (PySem.W.dataLe false id)) else none
def bfD : Bf → List D → Option Vl
  | .len, [.list xs] => some (.sh (.int xs.length))
  | .len, [.tuple xs] => some (.sh (.int xs.length))
  | .len, [.str x] => if x.length ≤ sizeLine then some (.sh (.int x.length)) else none
  | .abs, [.int i] => some (.sh (.int (if i < 0 then -i else i)))
  | .int, [.int i] => some (.sh (.int i))
  | .max, [.int i, .int j] => some (.sh (.int (if j > i then j else i)))
  | .min, [.int i, .int j] => some (.sh (.int (if j < i then j else i)))
  | .all, [.list xs] => (boolsD xs).map fun bs => .sh (.bool (bs.all id))
  | .any, [.list xs] => (boolsD xs).map fun bs => .sh (.bool (bs.any id))
  | .list, [.list xs] => some (.ow xs)
  | .list, [.tuple xs] => some (.ow xs)
  | .tuple, [.list xs] => some (.sh (.tuple xs))
  | .tuple, [.tuple xs] => some (.sh (.tuple xs))
  | .sorted, [.list xs] => (sortL xs).map .ow
  | .sorted, [.tuple xs] => (sortL xs).map .ow
  | _, _ => none
def tyD : D → Option Ty
  | .none => none
  | .bool _ => some .bool
  | .int _ => some .int
  | .str _ => some .str
  | .list _ => some .list
  | .tuple _ => some .tuple
  | .dict _ => none
def isiD (d : D) (t : Ty) : Bool := match tyD d, t with
  | some .bool, .bool => true
  | some .bool, .int => true
  | some .int, .int => true
  | some .str, .str => true
  | some .tuple, .tuple => true
  | some .list, .list => true
  | _, _ => false

def bindTg : Tg → D → Env → Option Env
  | .nm i, d, ρ => some (ρ.set i (some (.sh d)))
  | .tu is, .tuple ds, ρ => if is.length = ds.length then some ((is.zip ds).foldl (fun ρ p => ρ.set p.1 (some (.sh p.2))) ρ) else none
  | _, _, _ => none
def Tg.slots : Tg → List Nat
  | .nm i => [i]
  | .tu is => is
def wipeE (ρ : Env) : List Nat → Env
  | [] => ρ
  | v :: vs => (wipeE ρ vs).set v none

/-- the functions and the constants that are called by name -/
structure Cf where
  call : Str → Bool → List D → G → Option (Vl × G)
  cst : Str → Option Vl

/-- a walk that gathers -/
def lcLoop (fc : Env → G → Option (Bool × G)) (fe : Env → G → Option (List D × G)) (bind : D → Env → Option Env) (ρ : Env) : List D → G → Option (List D × G)
  | [], g => some ([], g)
  | x :: xs, g => do
    let ρ1 ← bind x ρ
    let (b, g1) ← fc ρ1 g
    if b then do
      let (ys, g2) ← fe ρ1 g1
      let (zs, g3) ← lcLoop fc fe bind ρ xs g2
      some (ys ++ zs, g3)
    else lcLoop fc fe bind ρ xs g1

def truth (v : Vl) : Option Bool := match v with
  | .sh d => truD d
  | .ow xs => some (!xs.isEmpty)
  | .bw xs => some (!xs.isEmpty)
  | _ => none
def getIx : Vl → D → Option D
  | .od kvs, k => (keyD k).bind (lookD kvs)
  | .bd kvs, k => (keyD k).bind (lookD kvs)
  | v, i => v.rd.bind fun d => ixD d i
def noList : D → Bool
  | .list _ => false
  | _ => true
def meD : Me → Vl → List D → Option Vl
  | .get, .od kvs, [k] => (keyD k).map fun k => .sh ((lookD kvs k).getD .none)
  | .get, .bd kvs, [k] => (keyD k).map fun k => .sh ((lookD kvs k).getD .none)
  | .get, .od kvs, [k, d] => if noList d then (keyD k).map fun k => .sh ((lookD kvs k).getD d) else none
  | .get, .bd kvs, [k, d] => if noList d then (keyD k).map fun k => .sh ((lookD kvs k).getD d) else none
  | _, _, _ => none
/-- a written table's pairs -/
def pairsD : List D → Option (List (Key × D))
  | [] => some []
  | k :: v :: r => do
    let k ← keyD k
    let m ← pairsD r
    some ((k, v) :: m)
  | _ => none
def mergeD (kvs more : List (Key × D)) : List (Key × D) := more.foldl (fun acc kv => putD acc kv.1 kv.2) kvs
def partD : Vl → Option Int
  | .sh (.int i) => some i
  | _ => none
def E.len : E → Nat
  | .cons _ b => b.len + 1
  | _ => 0
def E.row : E → Bool
  | .nil => true
  | .cons _ b => b.row
  | _ => false
def E.isNil : E → Bool
  | .nil => true
  | _ => false

def partO (none? : Bool) (f : Env → G → Option (Vl × G)) (ρ : Env) (g : G) : Option (Option Int × G) := if none? then some (none, g) else do
  let (v, g) ← f ρ g
  let i ← partD v
  some (some i, g)
def ev (c : Cf) : E → Env → G → Option (Vl × G)
  | .nil, _, g => some (.sh (.tuple []), g)
  | .cons a b, ρ, g => do
    let (va, g1) ← ev c a ρ g
    let d ← va.share
    let (vb, g2) ← ev c b ρ g1
    match vb with
    | .sh (.tuple ds) => some (.sh (.tuple (d :: ds)), g2)
    | _ => none
  | .nm i, ρ, g => match ρ[i]? with
    | some (some v) => some (v.borrow, g)
    | _ => none
  | .int i, _, g => some (.sh (.int i), g)
  | .str s, _, g => some (.sh (.str s), g)
  | .bl b, _, g => some (.sh (.bool b), g)
  | .non, _, g => some (.sh .none, g)
  | .gl x, _, g => (c.cst x).map fun v => (v, g)
  | .tu es, ρ, g => ev c es ρ g
  | .li es, ρ, g => do
    let (v, g1) ← ev c es ρ g
    match v with
    | .sh (.tuple ds) => some (.ow ds, g1)
    | _ => none
  | .rp es a, ρ, g => do
    let (v, g1) ← ev c es ρ g
    match v with
    | .sh (.tuple ds) => do
      let (va, g2) ← ev c a ρ g1
      match va with
      | .sh (.int k) => if -9223372036854775808 ≤ k ∧ k < 9223372036854775808 ∧ ds.length * k.toNat ≤ sizeLine then some (.ow (rep k.toNat ds), g2) else none
      | _ => none
    | _ => none
  | .di es, ρ, g => do
    let (v, g1) ← ev c es ρ g
    match v with
    | .sh (.tuple ds) => (pairsD ds).map fun m => (Vl.od (mergeD [] m), g1)
    | _ => none
  | .bi op a b, ρ, g => do
    let (va, g1) ← ev c a ρ g
    let x ← va.rd
    let (vb, g2) ← ev c b ρ g1
    let y ← vb.rd
    let r ← binD op x y
    some (r, g2)
  | .neg a, ρ, g => do
    let (va, g1) ← ev c a ρ g
    match va with
    | .sh (.int i) => some (.sh (.int (-i)), g1)
    | _ => none
  | .cm op a b, ρ, g => do
    let (va, g1) ← ev c a ρ g
    let x ← va.rd
    let (vb, g2) ← ev c b ρ g1
    let y ← vb.rd
    let r ← cmpD op x y
    some (.sh (.bool r), g2)
  | .ch o1 o2 a b d, ρ, g => do
    let (va, g1) ← ev c a ρ g
    let x ← va.rd
    let (vb, g2) ← ev c b ρ g1
    let y ← vb.rd
    let r ← cmpD o1 x y
    if r then do
      let (vd, g3) ← ev c d ρ g2
      let z ← vd.rd
      let r ← cmpD o2 y z
      some (.sh (.bool r), g3)
    else some (.sh (.bool false), g2)
  | .an a b, ρ, g => do
    let (va, g1) ← ev c a ρ g
    let t ← truth va
    if t then ev c b ρ g1 else some (va, g1)
  | .or a b, ρ, g => do
    let (va, g1) ← ev c a ρ g
    let t ← truth va
    if t then some (va, g1) else ev c b ρ g1
  | .no a, ρ, g => do
    let (va, g1) ← ev c a ρ g
    let t ← truth va
    some (.sh (.bool (!t)), g1)
  | .ie t a b, ρ, g => do
    let (vt, g1) ← ev c t ρ g
    let t ← truth vt
    if t then ev c a ρ g1 else ev c b ρ g1
  | .ix a b, ρ, g => do
    let (va, g1) ← ev c a ρ g
    let (vb, g2) ← ev c b ρ g1
    let i ← vb.rd
    let d ← getIx va i
    some (.sh d, g2)
  | .sl a lo hi, ρ, g => do
    let (va, g1) ← ev c a ρ g
    let x ← va.rd
    let (l, g2) ← partO lo.isNil (fun ρ g => ev c lo ρ g) ρ g1
    let (h, g3) ← partO hi.isNil (fun ρ g => ev c hi ρ g) ρ g2
    let r ← slD x l h
    some (r, g3)
  | .ca f gi es, ρ, g => do
    let (v, g1) ← ev c es ρ g
    match v with
    | .sh (.tuple ds) => match gi with
      | none => c.call f false ds g1
      | some i => match ρ[i]? with
        | some (some .gen) => c.call f true ds g1
        | _ => none
    | _ => none
  | .bf f es, ρ, g => do
    let (v, g1) ← evR c es ρ g
    let r ← bfD f v
    some (r, g1)
  | .me m o es, ρ, g => do
    let (vo, g1) ← ev c o ρ g
    let (ds, g2) ← evR c es ρ g1
    let r ← meD m vo ds
    some (r, g2)
  | .isi a ts, ρ, g => do
    let (va, g1) ← ev c a ρ g
    let x ← va.rd
    some (.sh (.bool (isiD x ts)), g1)
  | .r1 a, ρ, g => do
    let (va, g1) ← ev c a ρ g
    let xs ← rgD (.sh (.int 0)) va
    some (.ow xs, g1)
  | .r2 a b, ρ, g => do
    let (va, g1) ← ev c a ρ g
    let (vb, g2) ← ev c b ρ g1
    let xs ← rgD va vb
    some (.ow xs, g2)
  | .l1 a, ρ, g => do
    let (va, g1) ← ev c a ρ g
    let xs ← rgD (.sh (.int 0)) va
    some (.ow xs, g1)
  | .lr a b, ρ, g => do
    let (va, g1) ← ev c a ρ g
    let (vb, g2) ← ev c b ρ g1
    let xs ← rgD va vb
    some (.ow xs, g2)
  | .lc tg it t el, ρ, g => do
    let (vi, g1) ← ev c it ρ g
    let xs ← vi.rd.bind itD
    let (ys, g2) ← lcLoop (fun ρ g => do let (v, g) ← ev c t ρ g; let b ← truth v; some (b, g)) (fun ρ g => do let (v, g) ← ev c el ρ g; let d ← v.share; some ([d], g)) (bindTg tg) (wipeE ρ tg.slots) xs g1
    some (.ow ys, g2)
  | .l2 tg it t tg2 it2 t2 el, ρ, g => do
    let (vi, g1) ← ev c it ρ g
    let xs ← vi.rd.bind itD
    let (ys, g2) ← lcLoop (fun ρ g => do let (v, g) ← ev c t ρ g; let b ← truth v; some (b, g))
      (fun ρ g => do
        let (vi, g1) ← ev c it2 ρ g
        let xs ← vi.rd.bind itD
        lcLoop (fun ρ g => do let (v, g) ← ev c t2 ρ g; let b ← truth v; some (b, g)) (fun ρ g => do let (v, g) ← ev c el ρ g; let d ← v.share; some ([d], g)) (bindTg tg2) (wipeE ρ tg2.slots) xs g1)
      (bindTg tg) (wipeE ρ (tg.slots ++ tg2.slots)) xs g1
    if ys.length ≤ sizeLine then some (.ow ys, g2) else none
where
  /-- a row of values that are looked at -/
  evR (c : Cf) : E → Env → G → Option (List D × G)
  | .nil, _, g => some ([], g)
  | .cons a b, ρ, g => do
    let (va, g1) ← ev c a ρ g
    let d ← va.rd
    let (ds, g2) ← evR c b ρ g1
    some (d :: ds, g2)
  | _, _, _ => none
end Pu
set_option Elab.async false
set_option maxRecDepth 100000
set_option maxHeartbeats 4000000
set_option linter.all false
namespace Pu
open PySem L2

inductive Out where
  | nx
  | br
  | ct
  | rt (v : Vl)

def forLoop (body : Env → G → Option (Out × Env × G)) (bind : D → Env → Option Env) : List D → Env → G → Option (Out × Env × G)
  | [], ρ, g => some (.nx, ρ, g)
  | x :: xs, ρ, g => do
    let ρ1 ← bind x ρ
    let (o, ρ2, g2) ← body ρ1 g
    match o with
    | .nx => forLoop body bind xs ρ2 g2
    | .ct => forLoop body bind xs ρ2 g2
    | .br => some (.nx, ρ2, g2)
    | .rt v => some (.rt v, ρ2, g2)
def whileLoop (cond : Env → G → Option (Bool × G)) (body : Env → G → Option (Out × Env × G)) : Nat → Env → G → Option (Out × Env × G)
  | 0, _, _ => none
  | n + 1, ρ, g => do
    let (b, g1) ← cond ρ g
    if b then do
      let (o, ρ2, g2) ← body ρ g1
      match o with
      | .nx => whileLoop cond body n ρ2 g2
      | .ct => whileLoop cond body n ρ2 g2
      | .br => some (.nx, ρ2, g2)
      | .rt v => some (.rt v, ρ2, g2)
    else some (.nx, ρ, g1)

def evT (c : Cf) (e : E) (ρ : Env) (g : G) : Option (Bool × G) := do
  let (v, g) ← ev c e ρ g
  let b ← truth v
  some (b, g)
/-- a row of values, each to be kept -/
def evP (c : Cf) : E → Env → G → Option (List Vl × G)
  | .nil, _, g => some ([], g)
  | .cons a b, ρ, g => do
    let (va, g1) ← ev c a ρ g
    let d ← va.keep
    let (ds, g2) ← evP c b ρ g1
    some (d :: ds, g2)
  | _, _, _ => none
def setAll (ρ : Env) : List Nat → List Vl → Env
  | i :: is, v :: vs => setAll (ρ.set i (some v)) is vs
  | _, _ => ρ

def Vl.lst : Vl → Option (List D)
  | .ow xs => some xs
  | .bw xs => some xs
  | _ => none
def ex (c : Cf) : S → Env → G → Option (Out × Env × G)
  | .nop, ρ, g => some (.nx, ρ, g)
  | .seq a b, ρ, g => do
    let (o, ρ1, g1) ← ex c a ρ g
    match o with
    | .nx => ex c b ρ1 g1
    | o => some (o, ρ1, g1)
  | .as_ i e, ρ, g => do
    let (v, g1) ← ev c e ρ g
    let v ← v.keep
    some (.nx, ρ.set i (some v), g1)
  | .par is es, ρ, g => do
    let (vs, g1) ← evP c es ρ g
    if vs.length = is.length then some (.nx, setAll ρ is vs, g1) else none
  | .up is e, ρ, g => do
    let (v, g1) ← ev c e ρ g
    let d ← v.rd
    let ρ1 ← bindTg (.tu is) d ρ
    some (.nx, ρ1, g1)
  | .if_ t a b, ρ, g => do
    let (t, g1) ← evT c t ρ g
    if t then ex c a ρ g1 else ex c b ρ g1
  | .fo tg it b, ρ, g => do
    let (vi, g1) ← ev c it ρ g
    let d ← vi.share
    let xs ← itD d
    forLoop (ex c b) (bindTg tg) xs ρ g1
  | .wh n t b, ρ, g => whileLoop (evT c t) (ex c b) n ρ g
  | .re e, ρ, g => do
    let (v, g1) ← ev c e ρ g
    let v ← v.back
    some (.rt v, ρ, g1)
  | .rn, ρ, g => some (.rt (.sh .none), ρ, g)
  | .ap i e, ρ, g => do
    let (v, g1) ← ev c e ρ g
    let d ← v.share
    match ρ[i]? with
    | some (some (.ow xs)) => if xs.length < sizeLine then some (.nx, ρ.set i (some (.ow (xs ++ [d]))), g1) else none
    | _ => none
  | .ex i e, ρ, g => do
    let (v, g1) ← ev c e ρ g
    let ys ← v.lst
    match ρ[i]? with
    | some (some (.ow xs)) => if xs.length + ys.length ≤ sizeLine then some (.nx, ρ.set i (some (.ow (xs ++ ys))), g1) else none
    | _ => none
  | .si i k e, ρ, g => do
    let (v, g1) ← ev c e ρ g
    let d ← v.share
    let (vk, g2) ← ev c k ρ g1
    let kd ← vk.rd
    match ρ[i]? with
    | some (some (.ow xs)) => match kd with
      | .int j => (ixN xs.length j).map fun j => (.nx, ρ.set i (some (.ow (xs.set j d))), g2)
      | _ => none
    | some (some (.od kvs)) => (keyD kd).bind fun kd => if kvs.length < sizeLine then some (.nx, ρ.set i (some (.od (putD kvs kd d))), g2) else none
    | _ => none
  | .po i j, ρ, g => match ρ[j]? with
    | some (some (.ow (x :: xs))) => some (.nx, (ρ.set j (some (.ow xs))).set i (some (.sh x)), g)
    | _ => none
  | .fz i, ρ, g => match ρ[i]? with
    | some (some (.ow xs)) => some (.nx, ρ.set i (some (.sh (.list xs))), g)
    | _ => some (.nx, ρ, g)
  | .br, ρ, g => some (.br, ρ, g)
  | .co, ρ, g => some (.ct, ρ, g)

structure Fn where
  gen : Bool
  ar : Nat
  n : Nat
  body : S
def Fn.start (F : Fn) (ds : List D) : Env := (if F.gen then [some Vl.gen] else []) ++ ds.map (fun d => some (.sh d)) ++ List.replicate (F.n - (ds.length + if F.gen then 1 else 0)) none
def outV : Out → Option Vl
  | .nx => some (.sh .none)
  | .rt v => some v
  | _ => none
/-- the next draw, below n -/
def takeG (g : G) (n : Int) : Option (Int × G) :=
  if n < 2 then some (0, g)
  else if 1073741824 ≤ n then none
  else
    let m := n.toNat
    let a := g.at_ % g.ns.length
    let cell := g.ns.getD a 0
    if 1000000000000000000 ≤ cell then some (((cell % m : Nat) : Int), { g with ns := g.ns.set a (cell / m), ne := by simp [g.ne] })
    else
      let t := g.at_ + 1
      let s1 := (cell * 48271 + t * 69621) % 2147483647
      let s2 := (s1 * 16807 + t * 7919) % 1000000007
      some ((((s2 / 7) % m : Nat) : Int), { g with at_ := t })
def takeV : List D → G → Option (Vl × G)
  | [.int n], g => (takeG g n).map fun (i, g) => (.sh (.int i), g)
  | _, _ => none
abbrev Prog := List (Str × Fn)
def lookF : Prog → Str → Option Fn
  | [], _ => none
  | (x, F) :: r, y => if x = y then some F else lookF r y
def runF (c : Cf) (F : Fn) (gen : Bool) (ds : List D) (g : G) : Option (Vl × G) :=
  if F.gen = gen ∧ F.ar = ds.length then do
    let (o, _, g1) ← ex c F.body (F.start ds) g
    let v ← outV o
    some (v, g1)
  else none
def call (p : Prog) (cst : Str → Option Vl) : Nat → Str → Bool → List D → G → Option (Vl × G)
  | 0, _, _, _, _ => none
  | k + 1, f, gen, ds, g =>
    if f = "_law_take" then (if gen then takeV ds g else none)
    else match lookF p f with
      | some F => runF ⟨call p cst k, cst⟩ F gen ds g
      | none => none
def cfOf (p : Prog) (cst : Str → Option Vl) (k : Nat) : Cf := ⟨call p cst k, cst⟩

example (c : Cf) (ρ : Env) (g : G) : ev c (.bi .add (.int 3) (.int 4)) ρ g = some (.sh (.int 7), g) := rfl
example (c : Cf) (x : D) (g : G) : ex c (.seq (.as_ 1 (.nm 0)) (.re (.nm 1))) [some (.sh x), none] g = some (.rt (.sh x), [some (.sh x), some (.sh x)], g) := rfl
example (c : Cf) (g : G) : ex c (.seq (.as_ 1 (.lc (.nm 2) (.nm 0) (.bl true) (.bi .add (.nm 2) (.int 1)))) (.re (.nm 1))) [some (.sh (.list [.int 3, .int 5])), none, none] g = some (.rt (.ow [.int 4, .int 6]), [some (.sh (.list [.int 3, .int 5])), some (.ow [.int 4, .int 6]), none], g) := rfl
end Pu
set_option Elab.async false
set_option maxRecDepth 100000
set_option maxHeartbeats 4000000
set_option linter.all false
/-! P2: how plain values stand in the heap. -/
namespace Pu
open PySem PySem.Spec PyProof.Rows L2

structure Gh where
  ga : Addr
  gb : Addr

/-- a list that nobody changes any more -/
def FzL (H : Hp) (a : Addr) (vs : List V) : Prop := ∃ o, H a = some (.frz o (.lst vs))
theorem FzL.sq {K : PySem.W.Frag} {H : Hp} {a : Addr} {vs : List V} (h : FzL H a vs) : SqL K H a vs := by
  obtain ⟨o, h⟩ := h
  exact .inl (.inr ⟨o, h⟩)

mutual
inductive Rep (K : PySem.W.Frag) (H : Hp) : V → D → Prop
  | non : Rep K H .non .none
  | bl (b : Bool) : Rep K H (.bl b) (.bool b)
  | int (i : Int) : Rep K H (.int i) (.int i)
  | str (x : Str) : Rep K H (.str x) (.str x)
  | tup {a : Addr} {vs : List V} {ds : List D} : SqT K H a vs → RepAll K H vs ds → Rep K H (.ref a) (.tuple ds)
  | lst {a : Addr} {vs : List V} {ds : List D} : FzL H a vs → RepAll K H vs ds → Rep K H (.ref a) (.list ds)
inductive RepAll (K : PySem.W.Frag) (H : Hp) : List V → List D → Prop
  | nil : RepAll K H [] []
  | cons {v : V} {vs : List V} {d : D} {ds : List D} : Rep K H v d → RepAll K H vs ds → RepAll K H (v :: vs) (d :: ds)
end

/-- what never changes is there still -/
structure Ext (H H' : Hp) : Prop where
  tup : ∀ b xs, H b = some (.tup xs) → H' b = some (.tup xs)
  frz : ∀ b o u, H b = some (.frz o u) → H' b = some (.frz o u)
theorem Ext.refl (H : Hp) : Ext H H := ⟨fun _ _ h => h, fun _ _ _ h => h⟩
theorem Ext.trans {H H1 H2 : Hp} (a : Ext H H1) (b : Ext H1 H2) : Ext H H2 := ⟨fun c x h => b.tup c x (a.tup c x h), fun c o u h => b.frz c o u (a.frz c o u h)⟩
theorem Ext.sqt {K : PySem.W.Frag} {H H' : Hp} {a : Addr} {vs : List V} (e : Ext H H') (h : SqT K H a vs) : SqT K H' a vs := by
  rcases h with (h | ⟨o, h⟩) | h
  · exact .inl (.inl (e.tup _ _ h))
  · exact .inl (.inr ⟨o, e.frz _ _ _ h⟩)
  · exact .inr h
theorem Ext.fzl {H H' : Hp} {a : Addr} {vs : List V} (e : Ext H H') (h : FzL H a vs) : FzL H' a vs := by
  obtain ⟨o, h⟩ := h
  exact ⟨o, e.frz _ _ _ h⟩
mutual
theorem Rep.mono {K : PySem.W.Frag} {H H' : Hp} (e : Ext H H') : ∀ {d : D} {v : V}, Rep K H v d → Rep K H' v d
  | _, _, .non => .non
  | _, _, .bl b => .bl b
  | _, _, .int i => .int i
  | _, _, .str x => .str x
  | _, _, .tup h r => .tup (e.sqt h) (RepAll.mono e r)
  | _, _, .lst h r => .lst (e.fzl h) (RepAll.mono e r)
theorem RepAll.mono {K : PySem.W.Frag} {H H' : Hp} (e : Ext H H') : ∀ {ds : List D} {vs : List V}, RepAll K H vs ds → RepAll K H' vs ds
  | _, _, .nil => .nil
  | _, _, .cons h r => .cons (Rep.mono e h) (RepAll.mono e r)
end
mutual
theorem Rep.dp {K : PySem.W.Frag} {H : Hp} : ∀ {d : D} {v : V}, Rep K H v d → Dp K H v d
  | _, _, .non => .non
  | _, _, .bl b => .bl b
  | _, _, .int i => .int i
  | _, _, .str x => .str x
  | _, _, .tup h r => .tup h (RepAll.dp r)
  | _, _, .lst h r => .lst h.sq (RepAll.dp r)
theorem RepAll.dp {K : PySem.W.Frag} {H : Hp} : ∀ {ds : List D} {vs : List V}, RepAll K H vs ds → DpAll K H vs ds
  | _, _, .nil => .nil
  | _, _, .cons h r => .cons (Rep.dp h) (RepAll.dp r)
end
mutual
theorem Rep.plain {K : PySem.W.Frag} {H : Hp} : ∀ {d : D} {v : V}, Rep K H v d → d.plain = true
  | _, _, .non => rfl
  | _, _, .bl b => rfl
  | _, _, .int i => rfl
  | _, _, .str x => rfl
  | _, _, .tup h r => by rw [PyData.plain]; exact RepAll.plain r
  | _, _, .lst h r => by rw [PyData.plain]; exact RepAll.plain r
theorem RepAll.plain {K : PySem.W.Frag} {H : Hp} : ∀ {ds : List D} {vs : List V}, RepAll K H vs ds → PyData.plainAll ds = true
  | _, _, .nil => rfl
  | _, _, .cons h r => by rw [PyData.plainAll, Rep.plain h, RepAll.plain r]; rfl
end
theorem RepAll.length {K : PySem.W.Frag} {H : Hp} : ∀ {ds : List D} {vs : List V}, RepAll K H vs ds → vs.length = ds.length
  | _, _, .nil => rfl
  | _, _, .cons _ r => by simp [RepAll.length r]
theorem RepAll.append {K : PySem.W.Frag} {H : Hp} : ∀ {ds es : List D} {vs us : List V}, RepAll K H vs ds → RepAll K H us es → RepAll K H (vs ++ us) (ds ++ es)
  | _, _, _, _, .nil, s => s
  | _, _, _, _, .cons h r, s => .cons h (RepAll.append r s)
theorem RepAll.drop {K : PySem.W.Frag} {H : Hp} : ∀ {ds : List D} {vs : List V} (n : Nat), RepAll K H vs ds → RepAll K H (vs.drop n) (ds.drop n)
  | _, _, 0, r => r
  | _, _, _ + 1, .nil => .nil
  | _, _, n + 1, .cons _ r => RepAll.drop n r
theorem RepAll.take {K : PySem.W.Frag} {H : Hp} : ∀ {ds : List D} {vs : List V} (n : Nat), RepAll K H vs ds → RepAll K H (vs.take n) (ds.take n)
  | _, _, 0, _ => .nil
  | _, _, _ + 1, .nil => .nil
  | _, _, n + 1, .cons h r => .cons h (RepAll.take n r)
theorem RepAll.get {K : PySem.W.Frag} {H : Hp} : ∀ {ds : List D} {vs : List V} {i : Nat} {d : D}, RepAll K H vs ds → ds[i]? = some d → ∃ v, vs[i]? = some v ∧ Rep K H v d
  | _, _, _, _, .nil, e => by simp at e
  | _, _, 0, _, .cons h _, e => by simp at e; subst e; exact ⟨_, rfl, h⟩
  | _, _, i + 1, d, .cons _ r, e => by
    obtain ⟨v, h1, h2⟩ := RepAll.get (i := i) (d := d) r (by simpa using e)
    exact ⟨v, by simpa using h1, h2⟩
theorem RepAll.get' {K : PySem.W.Frag} {H : Hp} : ∀ {ds : List D} {vs : List V} {i : Nat} {v : V}, RepAll K H vs ds → vs[i]? = some v → ∃ d, ds[i]? = some d ∧ Rep K H v d
  | _, _, _, _, .nil, e => by simp at e
  | _, _, 0, _, .cons h _, e => by simp at e; subst e; exact ⟨_, rfl, h⟩
  | _, _, i + 1, d, .cons _ r, e => by
    obtain ⟨v, h1, h2⟩ := RepAll.get' (i := i) (v := d) r (by simpa using e)
    exact ⟨v, by simpa using h1, h2⟩
theorem RepAll.set {K : PySem.W.Frag} {H : Hp} {v : V} {d : D} (h : Rep K H v d) : ∀ {ds : List D} {vs : List V} (i : Nat), RepAll K H vs ds → RepAll K H (vs.set i v) (ds.set i d)
  | _, _, _, .nil => .nil
  | _, _, 0, .cons _ r => .cons h r
  | _, _, i + 1, .cons q r => .cons q (RepAll.set h i r)

/-- a value that reads as data -/
def Rdg (K : PySem.W.Frag) (H : Hp) (v : V) (d : D) : Prop := Rep K H v d ∨ ∃ a vs ds, v = .ref a ∧ d = .list ds ∧ H a = some (.lst vs) ∧ RepAll K H vs ds
theorem Rdg.dp {K : PySem.W.Frag} {H : Hp} {v : V} {d : D} (h : Rdg K H v d) : Dp K H v d := by
  rcases h with h | ⟨a, vs, ds, rfl, rfl, h, r⟩
  · exact h.dp
  · exact .lst (SqL.of h) r.dp
theorem Rdg.plain {K : PySem.W.Frag} {H : Hp} {v : V} {d : D} (h : Rdg K H v d) : d.plain = true := by
  rcases h with h | ⟨a, vs, ds, rfl, rfl, h, r⟩
  · exact h.plain
  · rw [PyData.plain]; exact r.plain
theorem Rdg.list {K : PySem.W.Frag} {H : Hp} {v : V} {ds : List D} (h : Rdg K H v (.list ds)) : ∃ a vs, v = .ref a ∧ SqL K H a vs ∧ RepAll K H vs ds := by
  rcases h with h | ⟨a, vs, es, rfl, e, h, r⟩
  · cases h with
    | lst h r => exact ⟨_, _, rfl, h.sq, r⟩
  · cases e
    exact ⟨_, _, rfl, SqL.of h, r⟩
theorem Rdg.tup {K : PySem.W.Frag} {H : Hp} {v : V} {ds : List D} (h : Rdg K H v (.tuple ds)) : ∃ a vs, v = .ref a ∧ SqT K H a vs ∧ RepAll K H vs ds := by
  rcases h with h | ⟨a, vs, es, rfl, e, h, r⟩
  · cases h with
    | tup h r => exact ⟨_, _, rfl, h, r⟩
  · cases e
theorem Rdg.int {K : PySem.W.Frag} {H : Hp} {v : V} {i : Int} (h : Rdg K H v (.int i)) : v = .int i := by
  rcases h with h | ⟨a, vs, es, rfl, e, h, r⟩
  · cases h; rfl
  · cases e
theorem Rdg.str {K : PySem.W.Frag} {H : Hp} {v : V} {x : Str} (h : Rdg K H v (.str x)) : v = .str x := by
  rcases h with h | ⟨a, vs, es, rfl, e, h, r⟩
  · cases h; rfl
  · cases e
theorem Rdg.bool {K : PySem.W.Frag} {H : Hp} {v : V} {x : Bool} (h : Rdg K H v (.bool x)) : v = .bl x := by
  rcases h with h | ⟨a, vs, es, rfl, e, h, r⟩
  · cases h; rfl
  · cases e
theorem Rdg.none {K : PySem.W.Frag} {H : Hp} {v : V} (h : Rdg K H v .none) : v = .non := by
  rcases h with h | ⟨a, vs, es, rfl, e, h, r⟩
  · cases h; rfl
  · cases e

/-- all that was there is there: nothing but new things were made -/
theorem same_ext {H H' : Hp} (s : Same H H') : Ext H H' := ⟨fun b _ h => s b _ h, fun b _ _ h => s b _ h⟩
theorem Rdg.same {K : PySem.W.Frag} {H H' : Hp} {v : V} {d : D} (s : Same H H') (h : Rdg K H v d) : Rdg K H' v d := by
  rcases h with h | ⟨a, vs, ds, rfl, rfl, h, r⟩
  · exact .inl (h.mono (same_ext s))
  · exact .inr ⟨a, vs, ds, rfl, rfl, s _ _ h, r.mono (same_ext s)⟩
theorem same_upd {H : Hp} {p : Addr} {o : HO} (h : H p = Option.none) : Same H (upd H p o) := fun b u e => by
  rw [upd_ne (ne_of_none e h)]
  exact e

/-- a table's pairs -/
inductive RepKV (K : PySem.W.Frag) (H : Hp) : List (Key × V) → List (Key × D) → Prop
  | nil : RepKV K H [] []
  | cons {k : Key} {v : V} {vs : List (Key × V)} {d : D} {ds : List (Key × D)} : Rep K H v d → RepKV K H vs ds → RepKV K H ((k, v) :: vs) ((k, d) :: ds)
theorem RepKV.mono {K : PySem.W.Frag} {H H' : Hp} (e : Ext H H') : ∀ {ds : List (Key × D)} {vs : List (Key × V)}, RepKV K H vs ds → RepKV K H' vs ds
  | _, _, .nil => .nil
  | _, _, .cons h r => .cons (h.mono e) (r.mono e)
theorem RepKV.length {K : PySem.W.Frag} {H : Hp} : ∀ {ds : List (Key × D)} {vs : List (Key × V)}, RepKV K H vs ds → vs.length = ds.length
  | _, _, .nil => rfl
  | _, _, .cons _ r => by simp [RepKV.length r]
theorem RepKV.look {K : PySem.W.Frag} {H : Hp} (k : Key) : ∀ {ds : List (Key × D)} {vs : List (Key × V)}, RepKV K H vs ds →
    (∃ v d, valV vs k = some v ∧ lookD ds k = some d ∧ Rep K H v d) ∨ (valV vs k = Option.none ∧ lookD ds k = Option.none)
  | _, _, .nil => .inr ⟨rfl, rfl⟩
  | _, _, .cons (k := k') h r => by
    by_cases e : k' = k
    · exact .inl ⟨_, _, valV_pos e, by rw [lookD, if_pos e], h⟩
    · rcases RepKV.look k r with ⟨v, d, h1, h2, h3⟩ | ⟨h1, h2⟩
      · exact .inl ⟨v, d, by rw [valV_neg e]; exact h1, by rw [lookD, if_neg e]; exact h2, h3⟩
      · exact .inr ⟨by rw [valV_neg e]; exact h1, by rw [lookD, if_neg e]; exact h2⟩

/-! ### results, slots -/
/-- a new result: nothing of H stands where it stands -/
def NR (K : PySem.W.Frag) (H H' : Hp) (v : V) : Vl → Prop
  | .sh d => Rep K H' v d
  | .ow xs => ∃ a vs, v = .ref a ∧ H' a = some (.lst vs) ∧ RepAll K H' vs xs ∧ H a = Option.none
  | .od kvs => ∃ a kv, v = .ref a ∧ H' a = some (.dK kv) ∧ RepKV K H' kv kvs ∧ H a = Option.none
  | _ => False

def GenOk (Γ : Gh) (H : Hp) (g : G) : Prop :=
  H Γ.ga = some (.lst [.int (g.at_ : Nat), .ref Γ.gb]) ∧ H Γ.gb = some (.lst (g.ns.map fun (n : Nat) => V.int n)) ∧ Γ.ga ≠ Γ.gb
/-- all but the draws is as it was -/
def Sm (Γ : Gh) (H H' : Hp) : Prop := ∀ b o, H b = some o → b ≠ Γ.ga → b ≠ Γ.gb → H' b = some o
theorem Sm.refl (Γ : Gh) (H : Hp) : Sm Γ H H := fun _ _ h _ _ => h
theorem Sm.trans {Γ : Gh} {H H1 H2 : Hp} (a : Sm Γ H H1) (b : Sm Γ H1 H2) : Sm Γ H H2 := fun c o h n m => b c o (a c o h n m) n m
theorem same_sm {H H' : Hp} (s : Same H H') (Γ : Gh) : Sm Γ H H' := fun b o h _ _ => s b o h
theorem Sm.ext {Γ : Gh} {H H' : Hp} {g : G} (s : Sm Γ H H') (o : GenOk Γ H g) : Ext H H' := by
  obtain ⟨h1, h2, _⟩ := o
  refine ⟨fun b xs h => s b _ h ?_ ?_, fun b x u h => s b _ h ?_ ?_⟩
  · intro e; rw [e, h1] at h; cases h
  · intro e; rw [e, h2] at h; cases h
  · intro e; rw [e, h1] at h; cases h
  · intro e; rw [e, h2] at h; cases h
theorem GenOk.same {Γ : Gh} {H H' : Hp} {g : G} (o : GenOk Γ H g) (s : Same H H') : GenOk Γ H' g := ⟨s _ _ o.1, s _ _ o.2.1, o.2.2⟩

structure OwnAt (Γ : Gh) (H0 : Hp) (a : Addr) : Prop where
  new : H0 a = Option.none
  nga : a ≠ Γ.ga
  ngb : a ≠ Γ.gb
/-- a result, as it stands behind an expression that began at Hs, in a body that began at H0 -/
def VR (K : PySem.W.Frag) (Γ : Gh) (H0 Hs H : Hp) (v : V) : Vl → Prop
  | .sh d => Rep K H v d
  | .ow xs => ∃ a vs, v = .ref a ∧ H a = some (.lst vs) ∧ RepAll K H vs xs ∧ OwnAt Γ H0 a ∧ Hs a = Option.none
  | .bw xs => ∃ a vs, v = .ref a ∧ H a = some (.lst vs) ∧ RepAll K H vs xs ∧ OwnAt Γ H0 a
  | .od kvs => ∃ a kv, v = .ref a ∧ H a = some (.dK kv) ∧ RepKV K H kv kvs ∧ OwnAt Γ H0 a ∧ Hs a = Option.none
  | .bd kvs => ∃ a kv, v = .ref a ∧ H a = some (.dK kv) ∧ RepKV K H kv kvs ∧ OwnAt Γ H0 a
  | .gen => v = .ref Γ.ga
/-- what stands in a slot -/
def SR (K : PySem.W.Frag) (Γ : Gh) (H0 H : Hp) (v : V) : Vl → Prop
  | .sh d => Rep K H v d
  | .ow xs => ∃ a vs, v = .ref a ∧ H a = some (.lst vs) ∧ RepAll K H vs xs ∧ OwnAt Γ H0 a
  | .od kvs => ∃ a kv, v = .ref a ∧ H a = some (.dK kv) ∧ RepKV K H kv kvs ∧ OwnAt Γ H0 a
  | .gen => v = .ref Γ.ga
  | _ => False
def Vl.own : Vl → Bool
  | .ow _ => true
  | .od _ => true
  | _ => false
structure EnvR (K : PySem.W.Frag) (Γ : Gh) (H0 H : Hp) (σ : L2.St) (ρ : Env) : Prop where
  len : σ.length = ρ.length
  get : ∀ (i : Nat) (u : Vl), ρ[i]? = some (some u) → ∃ v, σ[i]? = some (some v) ∧ SR K Γ H0 H v u
  sep : ∀ (i j : Nat) (u w : Vl) (v : V), i ≠ j → ρ[i]? = some (some u) → ρ[j]? = some (some w) → u.own = true → w.own = true → σ[i]? = some (some v) → σ[j]? ≠ some (some v)
theorem SR.sm {K : PySem.W.Frag} {Γ : Gh} {H0 H H' : Hp} {g : G} {v : V} (s : Sm Γ H H') (o : GenOk Γ H g) : ∀ {u : Vl}, SR K Γ H0 H v u → SR K Γ H0 H' v u
  | .sh d, h => Rep.mono (s.ext o) h
  | .ow xs, ⟨a, vs, e, h1, h2, h3⟩ => ⟨a, vs, e, s _ _ h1 h3.nga h3.ngb, h2.mono (s.ext o), h3⟩
  | .od xs, ⟨a, vs, e, h1, h2, h3⟩ => ⟨a, vs, e, s _ _ h1 h3.nga h3.ngb, h2.mono (s.ext o), h3⟩
  | .gen, h => h
theorem EnvR.sm {K : PySem.W.Frag} {Γ : Gh} {H0 H H' : Hp} {g : G} {σ : L2.St} {ρ : Env} (e : EnvR K Γ H0 H σ ρ) (s : Sm Γ H H') (o : GenOk Γ H g) : EnvR K Γ H0 H' σ ρ :=
  ⟨e.len, fun i u h => let ⟨v, h1, h2⟩ := e.get i u h; ⟨v, h1, h2.sm s o⟩, e.sep⟩
theorem VR.rdg {K : PySem.W.Frag} {Γ : Gh} {H0 Hs H : Hp} {v : V} : ∀ {r : Vl} {d : D}, VR K Γ H0 Hs H v r → r.rd = some d → Rdg K H v d
  | .sh _, _, h, e => by cases e; exact .inl h
  | .ow xs, _, ⟨a, vs, e1, h1, h2, _⟩, e => by cases e; exact .inr ⟨a, vs, xs, e1, rfl, h1, h2⟩
  | .bw xs, _, ⟨a, vs, e1, h1, h2, _⟩, e => by cases e; exact .inr ⟨a, vs, xs, e1, rfl, h1, h2⟩
  | .od _, _, _, e => by cases e
  | .bd _, _, _, e => by cases e
  | .gen, _, _, e => by cases e
/-- results stay while other things are made -/
theorem VR.sm {K : PySem.W.Frag} {Γ : Gh} {H0 Hs H H' : Hp} {g : G} {v : V} (s : Sm Γ H H') (o : GenOk Γ H g) : ∀ {r : Vl}, VR K Γ H0 Hs H v r → VR K Γ H0 Hs H' v r
  | .sh d, h => Rep.mono (s.ext o) h
  | .ow xs, ⟨a, vs, e, h1, h2, h3, h4⟩ => ⟨a, vs, e, s _ _ h1 h3.nga h3.ngb, h2.mono (s.ext o), h3, h4⟩
  | .bw xs, ⟨a, vs, e, h1, h2, h3⟩ => ⟨a, vs, e, s _ _ h1 h3.nga h3.ngb, h2.mono (s.ext o), h3⟩
  | .od xs, ⟨a, vs, e, h1, h2, h3, h4⟩ => ⟨a, vs, e, s _ _ h1 h3.nga h3.ngb, h2.mono (s.ext o), h3, h4⟩
  | .bd xs, ⟨a, vs, e, h1, h2, h3⟩ => ⟨a, vs, e, s _ _ h1 h3.nga h3.ngb, h2.mono (s.ext o), h3⟩
  | .gen, h => h
theorem new_at {Γ : Gh} {H0 H : Hp} {g : G} {a : Addr} (old : Sm Γ H0 H) (o : GenOk Γ H g) (h : H a = Option.none) (hz : ∀ b, b = Γ.ga ∨ b = Γ.gb → True) : OwnAt Γ H0 a := by
  have n1 : a ≠ Γ.ga := fun e => by rw [e, o.1] at h; cases h
  have n2 : a ≠ Γ.gb := fun e => by rw [e, o.2.1] at h; cases h
  refine ⟨?_, n1, n2⟩
  cases q : H0 a with
  | none => rfl
  | some u =>
    rw [old a u q n1 n2] at h
    cases h
/-- a new result of an operation is a result of the expression that began earlier -/
theorem NR.vr {K : PySem.W.Frag} {Γ : Gh} {H0 Hs H H' : Hp} {g : G} {v : V} (old : Sm Γ H0 H) (st : Sm Γ Hs H) (o : GenOk Γ H g) : ∀ {r : Vl}, NR K H H' v r → VR K Γ H0 Hs H' v r
  | .sh d, h => h
  | .ow xs, ⟨a, vs, e, h1, h2, h3⟩ => ⟨a, vs, e, h1, h2, new_at old o h3 (fun _ _ => True.intro), (new_at st o h3 (fun _ _ => True.intro)).new⟩
  | .od xs, ⟨a, vs, e, h1, h2, h3⟩ => ⟨a, vs, e, h1, h2, new_at old o h3 (fun _ _ => True.intro), (new_at st o h3 (fun _ _ => True.intro)).new⟩
end Pu
set_option Elab.async false
set_option maxRecDepth 100000
set_option maxHeartbeats 4000000
set_option linter.all false
/-! P3: operations by plain values. -/
namespace Pu
open PySem PySem.Spec PyProof.Rows L2
section
variable {X : Cx} {pins : List (Addr × Obj)} {σ : L2.St} {H : Hp} {s : Shared}

def BOp.py : BOp → Operator
  | .add => .Add
  | .sub => .Sub
  | .mul => .Mult
  | .fdiv => .FloorDiv
  | .mod => .Mod
def COp.py : COp → CmpOp
  | .eq => .Eq
  | .ne => .NotEq
  | .lt => .Lt
  | .le => .LtE
  | .gt => .Gt
  | .ge => .GtE
  | .is_ => .Is
  | .isn => .IsNot
  | .in_ => .In
  | .nin => .NotIn

/-- a list that is read, its very object -/
theorem listObj (I : Inv X pins σ H s) {v : V} {ds : List D} (h : Rdg X.K H v (.list ds)) :
    ∃ a vs its n, v = .ref a ∧ RepAll X.K H vs ds ∧ Vals vs its ∧ s.heap.get? a = some { cls := .type "list", data := .seq its.toArray n } ∧ vs.length ≤ sizeLine := by
  rcases h with h | ⟨a, vs, es, rfl, e, h, r⟩
  · cases h with
    | lst h r =>
      obtain ⟨o, h⟩ := h
      obtain ⟨e1, hz, its, n, rv, e2⟩ := I.hok _ _ h
      exact ⟨_, _, its, n, rfl, r, rv, e2, hz⟩
  · cases e
    obtain ⟨hz, its, n, rv, e2⟩ := I.hok _ _ h
    exact ⟨_, _, its, n, rfl, r, rv, e2, hz⟩

/-- a rule by plain values: two in, a new one out -/
def rB (K : PySem.W.Frag) (f : D → D → Option Vl) : R2 := fun x y H Q => ∃ dx dy r, Rdg K H x dx ∧ Rdg K H y dy ∧ f dx dy = some r ∧ ∀ v H', Same H H' → NR K H H' v r → Q v H'

theorem op_binD (op : BOp) : OpR X (binaryOp op.py) (rB X.K (binD op)) := by
  intro pins s σ H x y v u Q I rx ry h
  obtain ⟨dx, dy, r, hx, hy, hb, q⟩ := h
  unfold binD at hb
  split at hb
  · obtain rfl := hx.int
    obtain rfl := hy.int
    cases hb
    exact op_add pins s σ H _ _ v u Q I rx ry ⟨_, _, rfl, rfl, q _ H (Same.refl H) (.int _)⟩
  · split at hb
    · rename_i hz
      obtain rfl := hx.str
      obtain rfl := hy.str
      cases hb
      exact op_add_str pins s σ H _ _ v u Q I rx ry ⟨_, _, rfl, rfl, hz, q _ H (Same.refl H) (.str _)⟩
    · cases hb
  · split at hb
    · rename_i hz
      obtain ⟨a, vs, rfl, ha, ra⟩ := hx.tup
      obtain ⟨b, us, rfl, hb', rb⟩ := hy.tup
      cases hb
      refine op_catA pins s σ H _ _ v u Q I rx ry ⟨a, b, vs, us, rfl, rfl, ha, hb', by rw [ra.length, rb.length]; exact hz, fun e => ?_, fun e e' => ?_, fun e e' p hp => ?_⟩
      · subst e
        cases ra
        exact q _ H (Same.refl H) (.tup hb' rb)
      · subst e'
        cases rb
        rw [List.append_nil] at q
        exact q _ H (Same.refl H) (.tup ha ra)
      · have sm : Same H (upd H p (.tup (vs ++ us))) := same_upd hp
        exact q _ _ sm (.tup (SqT.of upd_same) ((ra.append rb).mono (same_ext sm)))
    · cases hb
  · split at hb
    · rename_i hz
      obtain ⟨a, vs, its, n, rfl, ra, r1, e1, z1⟩ := listObj I hx
      obtain ⟨b, us, its2, n2, rfl, rb, r2, e2, z2⟩ := listObj I hy
      cases hb
      cases rx
      cases ry
      have hl : vs.length + us.length ≤ sizeLine := by rw [ra.length, rb.length]; exact hz
      have l1 := r1.length
      have l2 := r2.length
      refine PySem.P.add_list e1 e2 ?_ (by rw [List.size_toArray, List.size_toArray]; omega)
      rw [show its.toArray ++ its2.toArray = (its ++ its2).toArray by simp]
      have hp : H s.heap.objs.size = none := I.hok.fresh (Nat.le_refl _)
      have sm : Same H (upd H s.heap.objs.size (.lst (vs ++ us))) := same_upd hp
      exact ⟨.ref _, _, I.lnew (t' := s.toks) (r1.append r2) (by rw [List.length_append]; exact hl), rfl, q _ _ sm ⟨_, _, rfl, upd_same, (ra.append rb).mono (same_ext sm), hp⟩⟩
    · cases hb
  · obtain rfl := hx.int
    obtain rfl := hy.int
    cases hb
    exact op_sub pins s σ H _ _ v u Q I rx ry ⟨_, _, rfl, rfl, q _ H (Same.refl H) (.int _)⟩
  · split at hb
    · rename_i hz
      obtain rfl := hx.int
      obtain rfl := hy.int
      cases hb
      exact op_mul pins s σ H _ _ v u Q I rx ry ⟨_, _, rfl, rfl, by unfold CMul; omega, q _ H (Same.refl H) (.int _)⟩
    · cases hb
  · split at hb
    · rename_i hz
      obtain rfl := hx.int
      obtain rfl := hy.int
      cases hb
      exact op_fdiv pins s σ H _ _ v u Q I rx ry ⟨_, _, rfl, rfl, hz, q _ H (Same.refl H) (.int _)⟩
    · cases hb
  · split at hb
    · rename_i hz
      obtain rfl := hx.int
      obtain rfl := hy.int
      cases hb
      exact op_mod pins s σ H _ _ v u Q I rx ry ⟨_, _, rfl, rfl, hz, q _ H (Same.refl H) (.int _)⟩
    · cases hb
  · cases hb

/-- two in, a truth value out -/
def rC (K : PySem.W.Frag) (f : D → D → Option Bool) : R2 := fun x y H Q => ∃ dx dy r, Rdg K H x dx ∧ Rdg K H y dy ∧ f dx dy = some r ∧ Q (.bl r) H

theorem mapNot {o : Option Bool} {r : Bool} (h : o.map not = some r) : ∃ q, o = some q ∧ r = !q := by
  cases o with
  | none => cases h
  | some q => cases h; exact ⟨q, rfl, rfl⟩
theorem min_bd {a b m : Nat} (h : a ≤ m ∨ b ≤ m) : min a b ≤ m := by omega
theorem op_eqP (hu : X.A.units + 200 < cLine) : OpR X (compareOp .Eq) (rC X.K eqD) := by
  intro pins s σ H x y v u Q I rx ry h
  obtain ⟨dx, dy, r, hx, hy, hb, q⟩ := h
  unfold eqD at hb
  split at hb
  · rename_i hz
    cases hb
    obtain ⟨as, r1⟩ := Dp.reads I dx x v hx.dp rx
    obtain ⟨bs, r2⟩ := Dp.reads I dy y u hy.dp ry
    have := min_bd hz
    unfold dMost at this
    exact SeqAt.eq_plain r1 r2 hx.plain hy.plain (by omega) ⟨.bl _, H, I, rfl, q⟩
  · cases hb
theorem op_neP (hu : X.A.units + 200 < cLine) : OpR X (compareOp .NotEq) (rC X.K fun x y => (eqD x y).map not) := by
  intro pins s σ H x y v u Q I rx ry h
  obtain ⟨dx, dy, r, hx, hy, hbo, q⟩ := h
  obtain ⟨r0, hb, er⟩ := mapNot (show (eqD dx dy).map not = some r from hbo)
  subst er
  unfold eqD at hb
  split at hb
  · rename_i hz
    cases hb
    obtain ⟨as, r1⟩ := Dp.reads I dx x v hx.dp rx
    obtain ⟨bs, r2⟩ := Dp.reads I dy y u hy.dp ry
    have := min_bd hz
    unfold dMost at this
    exact SeqAt.ne_plain r1 r2 hx.plain hy.plain (by omega) ⟨.bl _, H, I, rfl, q⟩
  · cases hb
theorem plainAll_of {K : PySem.W.Frag} {v : V} {ds : List D} (h : Rdg K H v (.list ds)) : PyData.plainAll ds = true := by
  have := h.plain
  rwa [PyData.plain] at this
theorem plainAll_ofT {K : PySem.W.Frag} {v : V} {ds : List D} (h : Rdg K H v (.tuple ds)) : PyData.plainAll ds = true := by
  have := h.plain
  rwa [PyData.plain] at this
theorem op_inP (hu : X.A.units + 200 < cLine) : OpR X (compareOp .In) (rC X.K inD) := by
  intro pins s σ H x y v u Q I rx ry h
  obtain ⟨dx, dy, r, hx, hy, hb, q⟩ := h
  unfold inD at hb
  split at hb
  · split at hb
    · rename_i hz
      cases hb
      obtain ⟨as, r1⟩ := Dp.reads I dx x v hx.dp rx
      obtain ⟨bs, r2⟩ := Dp.reads I _ y u hy.dp ry
      have := min_bd hz.symm
      unfold dMost at this
      exact SeqAt.in_list_data r2 r1 (plainAll_of hy) hx.plain (by omega) ⟨.bl _, H, I, rfl, q⟩
    · cases hb
  · split at hb
    · rename_i hz
      cases hb
      obtain ⟨as, r1⟩ := Dp.reads I dx x v hx.dp rx
      obtain ⟨bs, r2⟩ := Dp.reads I _ y u hy.dp ry
      have := min_bd hz.symm
      unfold dMost at this
      exact SeqAt.in_tuple_data r2 r1 (plainAll_ofT hy) hx.plain (by omega) ⟨.bl _, H, I, rfl, q⟩
    · cases hb
  · split at hb
    · cases hb
      obtain rfl := hx.str
      obtain rfl := hy.str
      exact op_in_str pins s σ H _ _ v u Q I rx ry ⟨_, _, rfl, rfl, q⟩
    · cases hb
  · cases hb
theorem op_ninP (hu : X.A.units + 200 < cLine) : OpR X (compareOp .NotIn) (rC X.K fun x y => (inD x y).map not) := by
  intro pins s σ H x y v u Q I rx ry h
  obtain ⟨dx, dy, r, hx, hy, hbo, q⟩ := h
  obtain ⟨r0, hb, er⟩ := mapNot (show (inD dx dy).map not = some r from hbo)
  subst er
  unfold inD at hb
  split at hb
  · split at hb
    · rename_i hz
      cases hb
      obtain ⟨as, r1⟩ := Dp.reads I dx x v hx.dp rx
      obtain ⟨bs, r2⟩ := Dp.reads I _ y u hy.dp ry
      have := min_bd hz.symm
      unfold dMost at this
      exact SeqAt.notIn_list_data r2 r1 (plainAll_of hy) hx.plain (by omega) ⟨.bl _, H, I, rfl, q⟩
    · cases hb
  · split at hb
    · rename_i hz
      cases hb
      obtain ⟨as, r1⟩ := Dp.reads I dx x v hx.dp rx
      obtain ⟨bs, r2⟩ := Dp.reads I _ y u hy.dp ry
      have := min_bd hz.symm
      unfold dMost at this
      exact SeqAt.notIn_tuple_data r2 r1 (plainAll_ofT hy) hx.plain (by omega) ⟨.bl _, H, I, rfl, q⟩
    · cases hb
  · split at hb
    · cases hb
      obtain rfl := hx.str
      obtain rfl := hy.str
      exact op_notIn_str pins s σ H _ _ v u Q I rx ry ⟨_, _, rfl, rfl, q⟩
    · cases hb
  · cases hb
theorem rdg_non {K : PySem.W.Frag} {x : V} {d : D} (h : Rdg K H x d) : decide (x = V.non) = isNone d := by
  rcases h with h | ⟨a, vs, es, rfl, rfl, h, r⟩
  · cases h <;> rfl
  · rfl
theorem op_isP : OpR X (compareOp .Is) (rC X.K isD) := by
  intro pins s σ H x y v u Q I rx ry h
  obtain ⟨dx, dy, r, hx, hy, hb, q⟩ := h
  unfold isD at hb
  split at hb
  · obtain rfl := hy.none
    cases hb
    refine op_isN pins s σ H _ _ v u Q I rx ry ⟨rfl, ?_⟩
    rw [rdg_non hx]
    exact q
  · split at hb
    · cases hb
      obtain rfl := hx.bool
      obtain rfl := hy.bool
      refine op_isBl pins s σ H _ _ v u Q I rx ry ⟨_, _, rfl, rfl, ?_⟩
      rw [← Bool.beq_eq_decide_eq]
      exact q
    · cases hb
  · cases hb
theorem op_isnP : OpR X (compareOp .IsNot) (rC X.K fun x y => (isD x y).map not) := by
  intro pins s σ H x y v u Q I rx ry h
  obtain ⟨dx, dy, r, hx, hy, hbo, q⟩ := h
  obtain ⟨r0, hb, er⟩ := mapNot (show (isD dx dy).map not = some r from hbo)
  subst er
  unfold isD at hb
  split at hb
  · obtain rfl := hy.none
    cases hb
    refine op_notN pins s σ H _ _ v u Q I rx ry ⟨rfl, ?_⟩
    rw [rdg_non hx]
    exact q
  · split at hb
    · cases hb
      obtain rfl := hx.bool
      obtain rfl := hy.bool
      refine op_notBl pins s σ H _ _ v u Q I rx ry ⟨_, _, rfl, rfl, ?_⟩
      rw [← Bool.beq_eq_decide_eq]
      exact q
    · cases hb
  · cases hb
theorem rC_int {f : Int → Int → Bool} {g : Value → Value → Sem Value} (h0 : OpR X g (rI0 fun i j => .bl (f i j))) {F : D → D → Option Bool}
    (hF : ∀ x y r, F x y = some r → ∃ i j, x = .int i ∧ y = .int j ∧ r = f i j) : OpR X g (rC X.K F) := by
  intro pins s σ H x y v u Q I rx ry h
  obtain ⟨dx, dy, r, hx, hy, hb, q⟩ := h
  obtain ⟨i, j, rfl, rfl, rfl⟩ := hF _ _ _ hb
  obtain rfl := hx.int
  obtain rfl := hy.int
  exact h0 pins s σ H _ _ v u Q I rx ry ⟨_, _, rfl, rfl, q⟩
theorem op_cmpD (hu : X.A.units + 200 < cLine) (op : COp) : OpR X (compareOp op.py) (rC X.K (cmpD op)) := by
  cases op with
  | eq => exact op_eqP hu
  | ne => exact op_neP hu
  | in_ => exact op_inP hu
  | nin => exact op_ninP hu
  | is_ => exact op_isP
  | isn => exact op_isnP
  | lt =>
    refine rC_int op_lt fun x y r h => ?_
    simp only [cmpD, ltD] at h
    split at h <;> first | (cases h; exact ⟨_, _, rfl, rfl, rfl⟩) | simp_all
  | le =>
    refine rC_int op_le fun x y r h => ?_
    simp only [cmpD, ltD] at h
    split at h <;> first | (cases h; exact ⟨_, _, rfl, rfl, rfl⟩) | simp_all
  | gt =>
    refine rC_int op_gt fun x y r h => ?_
    simp only [cmpD, ltD] at h
    split at h <;> first | (cases h; exact ⟨_, _, rfl, rfl, rfl⟩) | simp_all
  | ge =>
    refine rC_int op_ge fun x y r h => ?_
    simp only [cmpD, ltD] at h
    split at h <;> first | (cases h; exact ⟨_, _, rfl, rfl, rfl⟩) | simp_all

/-! ### truth -/
theorem isEmpty_rep {K : PySem.W.Frag} {vs : List V} {ds : List D} (r : RepAll K H vs ds) : vs.isEmpty = ds.isEmpty := by
  cases r <;> rfl
theorem truV_of {K : PySem.W.Frag} {v : V} {d : D} {b : Bool} (h : Rdg K H v d) (e : truD d = some b) : TruV K v H b := by
  unfold truD at e
  split at e
  · obtain rfl := h.none
    cases e
    exact (show false = false from rfl)
  · obtain rfl := h.bool
    cases e
    exact (show _ = _ from rfl)
  · obtain rfl := h.int
    cases e
    exact (show _ = _ from rfl)
  · obtain ⟨a, vs, rfl, ha, r⟩ := h.list
    cases e
    exact .inl ⟨vs, ha, by rw [isEmpty_rep r]⟩
  · obtain ⟨a, vs, rfl, ha, r⟩ := h.tup
    cases e
    exact .inr (.inl ⟨vs, ha, by rw [isEmpty_rep r]⟩)
  · split at e
    · obtain rfl := h.str
      cases e
      exact ⟨by assumption, rfl⟩
    · cases e
  · cases e

/-! ### a[i] -/
theorem atI_len {α β : Type} {xs : List α} {ys : List β} (h : xs.length = ys.length) (i : Int) : ixN xs.length i = ixN ys.length i := by rw [h]
theorem atI_rep {K : PySem.W.Frag} {vs : List V} {ds : List D} {i : Int} {d : D} (r : RepAll K H vs ds) (h : atI ds i = some d) : ∃ v, atI vs i = some v ∧ Rep K H v d := by
  unfold atI at h ⊢
  rw [r.length]
  cases e : ixN ds.length i with
  | none => rw [e] at h; cases h
  | some j =>
    rw [e] at h
    exact r.get (show ds[j]? = some d from h)
theorem ix_D : IxR X (fun x y H Q => ∃ dx dy r, Rdg X.K H x dx ∧ Rdg X.K H y dy ∧ ixD dx dy = some r ∧ ∀ v, Rep X.K H v r → Q v H) := by
  intro value slice pins s σ H x y v u Q I rx ry h hs
  obtain ⟨dx, dy, r, hx, hy, hb, q⟩ := h
  refine ix_seq value slice pins s σ H x y v u Q I rx ry ?_ hs
  unfold ixD at hb
  split at hb
  · obtain ⟨a, vs, rfl, ha, ra⟩ := hx.list
    obtain rfl := hy.int
    obtain ⟨z, h1, h2⟩ := atI_rep ra hb
    exact .inl ⟨_, _, _, _, rfl, rfl, ha, h1, q _ h2⟩
  · obtain ⟨a, vs, rfl, ha, ra⟩ := hx.tup
    obtain rfl := hy.int
    obtain ⟨z, h1, h2⟩ := atI_rep ra hb
    exact .inr (.inl ⟨_, _, _, _, rfl, rfl, ha, h1, q _ h2⟩)
  · split at hb
    · obtain rfl := hx.str
      obtain rfl := hy.int
      rename_i hz
      rw [Option.map_eq_some_iff] at hb
      obtain ⟨c, hc, rfl⟩ := hb
      exact .inr (.inr ⟨_, _, _, rfl, rfl, hz, hc, q _ (.str _)⟩)
    · cases hb
  · cases hb

/-! ### a[lo:hi] -/
theorem cut_rep {K : PySem.W.Frag} {vs : List V} {ds : List D} (r : RepAll K H vs ds) (lo hi : Option Int) : RepAll K H (cutV vs lo hi) (cutD ds lo hi) := by
  unfold cutV cutD
  rw [r.length]
  exact (r.drop _).take _
theorem sl_D : SlR X (fun x lo hi H Q => ∃ dx r, Rdg X.K H x dx ∧ slD dx lo hi = some r ∧ ∀ v H', Same H H' → NR X.K H H' v r → Q v H') := by
  intro pins s σ H x v vl vu lo hi sl Q I rx hs pl pu h
  obtain ⟨dx, r, hx, hb, q⟩ := h
  unfold slD at hb
  split at hb
  · obtain ⟨a, vs, rfl, ha, ra⟩ := hx.list
    cases hb
    refine sl_list pins s σ H _ v vl vu _ _ sl Q I rx hs pl pu ⟨a, vs, rfl, ha, fun p hp => ?_⟩
    have sm : Same H (upd H p (.lst (cutV vs lo hi))) := same_upd hp
    exact q _ _ sm ⟨_, _, rfl, upd_same, (cut_rep ra lo hi).mono (same_ext sm), hp⟩
  · obtain ⟨a, vs, rfl, ha, ra⟩ := hx.tup
    cases hb
    refine sl_tupA pins s σ H _ v vl vu _ _ sl Q I rx hs pl pu ⟨a, vs, rfl, ha, fun hw => ?_, fun hw p hp => ?_⟩
    · have e : cutD ‹List D› lo hi = ‹List D› := by
        unfold cutD
        rw [← ra.length, hw.1, hw.2, ra.length]
        simp
      rw [e] at q
      exact q _ H (Same.refl H) (.tup ha ra)
    · have sm : Same H (upd H p (.tup (cutV vs lo hi))) := same_upd hp
      exact q _ _ sm (.tup (SqT.of upd_same) ((cut_rep ra lo hi).mono (same_ext sm)))
  · cases hb
end
end Pu
set_option Elab.async false
set_option maxRecDepth 100000
set_option maxHeartbeats 4000000
set_option linter.all false
/-! P4: calls of built-ins by plain values. -/
namespace Pu
open PySem PySem.Spec PyProof.Rows L2

inductive RdA (K : PySem.W.Frag) (H : Hp) : List V → List D → Prop
  | nil : RdA K H [] []
  | cons {v : V} {vs : List V} {d : D} {ds : List D} : Rdg K H v d → RdA K H vs ds → RdA K H (v :: vs) (d :: ds)
theorem RdA.one {K : PySem.W.Frag} {H : Hp} {vs : List V} {d : D} (h : RdA K H vs [d]) : ∃ v, vs = [v] ∧ Rdg K H v d := by
  cases h with
  | cons h r => cases r; exact ⟨_, rfl, h⟩
theorem RdA.two {K : PySem.W.Frag} {H : Hp} {vs : List V} {d e : D} (h : RdA K H vs [d, e]) : ∃ v u, vs = [v, u] ∧ Rdg K H v d ∧ Rdg K H u e := by
  cases h with
  | cons h r =>
    obtain ⟨u, rfl, h2⟩ := r.one
    exact ⟨_, _, rfl, h, h2⟩
/-- a call by plain values -/
def rA (K : PySem.W.Frag) (F : List D → Option Vl) : List V → Hp → VK → Prop := fun xs H Q => ∃ ds r, RdA K H xs ds ∧ F ds = some r ∧ ∀ v H', Same H H' → NR K H H' v r → Q v H'

theorem bools_rep {K : PySem.W.Frag} {H : Hp} : ∀ {ds : List D} {vs : List V} {bs : List Bool}, RepAll K H vs ds → boolsD ds = some bs → vs = bs.map V.bl
  | _, _, _, .nil, e => by cases e; rfl
  | _, _, _, .cons (d := d) h r, e => by
    cases d <;> simp only [boolsD] at e <;> try (cases e; done)
    cases h
    obtain ⟨bs', h1, rfl⟩ := Option.map_eq_some_iff.mp e
    rw [bools_rep r h1]
    rfl
theorem ints_rep {K : PySem.W.Frag} {H : Hp} : ∀ {ds : List D} {vs : List V} {ns : List Int}, RepAll K H vs ds → intsD ds = some ns → vs = ns.map V.int
  | _, _, _, .nil, e => by cases e; rfl
  | _, _, _, .cons (d := d) h r, e => by
    cases d <;> simp only [intsD] at e <;> try (cases e; done)
    cases h
    obtain ⟨bs', h1, rfl⟩ := Option.map_eq_some_iff.mp e
    rw [ints_rep r h1]
    rfl

section
variable {X : Cx}
theorem cb_len : CallR X (.builtin "len") (rA X.K (bfD .len)) := by
  intro pins s σ H xs us Q I r h
  obtain ⟨ds, r0, hd, hb, q⟩ := h
  unfold bfD at hb
  split at hb <;> (try (cases hb; done)) <;> rename_i hs <;> (try (simp at hs; done))
  · obtain ⟨v, rfl, h1⟩ := hd.one
    cases hb
    obtain ⟨a, vs, rfl, ha, ra⟩ := h1.list
    exact call_len_seq pins s σ H _ us Q I r ⟨a, vs, rfl, .inl ha, by rw [ra.length]; exact q _ H (Same.refl H) (.int _)⟩
  · obtain ⟨v, rfl, h1⟩ := hd.one
    cases hb
    obtain ⟨a, vs, rfl, ha, ra⟩ := h1.tup
    exact call_len_seq pins s σ H _ us Q I r ⟨a, vs, rfl, .inr ha, by rw [ra.length]; exact q _ H (Same.refl H) (.int _)⟩
  · split at hb
    · obtain ⟨v, rfl, h1⟩ := hd.one
      obtain rfl := h1.str
      cases hb
      exact call_len_str pins s σ H _ us Q I r ⟨_, rfl, by assumption, q _ H (Same.refl H) (.int _)⟩
    · cases hb
theorem cb_abs : CallR X (.builtin "abs") (rA X.K (bfD .abs)) := by
  intro pins s σ H xs us Q I r h
  obtain ⟨ds, r0, hd, hb, q⟩ := h
  unfold bfD at hb
  split at hb <;> (try (cases hb; done)) <;> rename_i hs <;> (try (simp at hs; done))
  obtain ⟨v, rfl, h1⟩ := hd.one
  obtain rfl := h1.int
  cases hb
  exact call_abs pins s σ H _ us Q I r ⟨_, rfl, q _ H (Same.refl H) (.int _)⟩
theorem cb_int : CallR X (.type "int") (rA X.K (bfD .int)) := by
  intro pins s σ H xs us Q I r h
  obtain ⟨ds, r0, hd, hb, q⟩ := h
  unfold bfD at hb
  split at hb <;> (try (cases hb; done)) <;> rename_i hs <;> (try (simp at hs; done))
  obtain ⟨v, rfl, h1⟩ := hd.one
  obtain rfl := h1.int
  cases hb
  exact call_int1 pins s σ H _ us Q I r (.inl ⟨_, rfl, q _ H (Same.refl H) (.int _)⟩)
theorem cb_max (hc : X.calm = true) : CallR X (.builtin "max") (rA X.K (bfD .max)) := by
  intro pins s σ H xs us Q I r h
  obtain ⟨ds, r0, hd, hb, q⟩ := h
  unfold bfD at hb
  split at hb <;> (try (cases hb; done)) <;> rename_i hs <;> (try (simp at hs; done))
  obtain ⟨v, u, rfl, h1, h2⟩ := hd.two
  obtain rfl := h1.int
  obtain rfl := h2.int
  cases hb
  exact call_max2 hc pins s σ H _ us Q I r ⟨_, _, rfl, q _ H (Same.refl H) (.int _)⟩
theorem cb_min (hc : X.calm = true) : CallR X (.builtin "min") (rA X.K (bfD .min)) := by
  intro pins s σ H xs us Q I r h
  obtain ⟨ds, r0, hd, hb, q⟩ := h
  unfold bfD at hb
  split at hb <;> (try (cases hb; done)) <;> rename_i hs <;> (try (simp at hs; done))
  obtain ⟨v, u, rfl, h1, h2⟩ := hd.two
  obtain rfl := h1.int
  obtain rfl := h2.int
  cases hb
  exact call_min2 hc pins s σ H _ us Q I r ⟨_, _, rfl, q _ H (Same.refl H) (.int _)⟩
theorem cb_all (hc : X.calm = true) : CallR X (.builtin "all") (rA X.K (bfD .all)) := by
  intro pins s σ H xs us Q I r h
  obtain ⟨ds, r0, hd, hb, q⟩ := h
  unfold bfD at hb
  split at hb <;> (try (cases hb; done)) <;> rename_i hs <;> (try (simp at hs; done))
  obtain ⟨v, rfl, h1⟩ := hd.one
  obtain ⟨a, vs, rfl, ha, ra⟩ := h1.list
  obtain ⟨bs, e, rfl⟩ := Option.map_eq_some_iff.mp hb
  obtain rfl := bools_rep ra e
  exact cr_all hc pins s σ H _ us Q I r ⟨a, bs, rfl, ha, q _ H (Same.refl H) (.bl _)⟩
theorem cb_any (hc : X.calm = true) : CallR X (.builtin "any") (rA X.K (bfD .any)) := by
  intro pins s σ H xs us Q I r h
  obtain ⟨ds, r0, hd, hb, q⟩ := h
  unfold bfD at hb
  split at hb <;> (try (cases hb; done)) <;> rename_i hs <;> (try (simp at hs; done))
  obtain ⟨v, rfl, h1⟩ := hd.one
  obtain ⟨a, vs, rfl, ha, ra⟩ := h1.list
  obtain ⟨bs, e, rfl⟩ := Option.map_eq_some_iff.mp hb
  obtain rfl := bools_rep ra e
  exact cr_any hc pins s σ H _ us Q I r ⟨a, bs, rfl, ha, q _ H (Same.refl H) (.bl _)⟩
theorem cb_list : CallR X (.type "list") (rA X.K (bfD .list)) := by
  intro pins s σ H xs us Q I r h
  obtain ⟨ds, r0, hd, hb, q⟩ := h
  unfold bfD at hb
  split at hb <;> (try (cases hb; done)) <;> rename_i hs <;> (try (simp at hs; done))
  · obtain ⟨v, rfl, h1⟩ := hd.one
    obtain ⟨a, vs, rfl, ha, ra⟩ := h1.list
    cases hb
    refine call_list_of pins s σ H _ us Q I r ⟨a, vs, rfl, .inl ha, fun p hp => ?_⟩
    have sm : Same H (upd H p (.lst vs)) := same_upd hp
    exact q _ _ sm ⟨_, _, rfl, upd_same, ra.mono (same_ext sm), hp⟩
  · obtain ⟨v, rfl, h1⟩ := hd.one
    obtain ⟨a, vs, rfl, ha, ra⟩ := h1.tup
    cases hb
    refine call_list_of pins s σ H _ us Q I r ⟨a, vs, rfl, .inr ha, fun p hp => ?_⟩
    have sm : Same H (upd H p (.lst vs)) := same_upd hp
    exact q _ _ sm ⟨_, _, rfl, upd_same, ra.mono (same_ext sm), hp⟩
theorem cb_tuple : CallR X (.type "tuple") (rA X.K (bfD .tuple)) := by
  intro pins s σ H xs us Q I r h
  obtain ⟨ds, r0, hd, hb, q⟩ := h
  unfold bfD at hb
  split at hb <;> (try (cases hb; done)) <;> rename_i hs <;> (try (simp at hs; done))
  · obtain ⟨v, rfl, h1⟩ := hd.one
    obtain ⟨a, vs, rfl, ha, ra⟩ := h1.list
    cases hb
    refine call_tuple_of pins s σ H _ us Q I r ⟨a, vs, rfl, .inl ⟨ha, fun p hp => ?_⟩⟩
    have sm : Same H (upd H p (.tup vs)) := same_upd hp
    exact q _ _ sm (.tup (SqT.of upd_same) (ra.mono (same_ext sm)))
  · obtain ⟨v, rfl, h1⟩ := hd.one
    obtain ⟨a, vs, rfl, ha, ra⟩ := h1.tup
    cases hb
    exact call_tuple_of pins s σ H _ us Q I r ⟨a, vs, rfl, .inr ⟨ha, q _ H (Same.refl H) (.tup ha ra)⟩⟩

/-! ### sorted -/
def SPair (X : Cx) (H : Hp) (h : Heap) (u : Value) (p : V × D) : Prop := RelV p.1 u ∧ Rep X.K H p.1 p.2
theorem each_of {X : Cx} {H : Hp} {h : Heap} : ∀ {vs : List V} {ds : List D} {us : List Value}, RepAll X.K H vs ds → Vals vs us → PySem.W.EachIs (SPair X H h) us (vs.zip ds)
  | _, _, _, .nil, .nil => .nil
  | _, _, _, .cons h r, .cons r1 r2 => .cons ⟨r1, h⟩ (each_of r r2)
theorem of_each {X : Cx} {H : Hp} {h : Heap} : ∀ {us : List Value} {ps : List (V × D)}, PySem.W.EachIs (SPair X H h) us ps → Vals (ps.map (·.1)) us ∧ RepAll X.K H (ps.map (·.1)) (ps.map (·.2))
  | _, _, .nil => ⟨.nil, .nil⟩
  | _, _, .cons h r => ⟨.cons h.1 (of_each r).1, .cons h.2 (of_each r).2⟩
theorem each_reads {X : Cx} {pins : List (Addr × Obj)} {σ : L2.St} {H : Hp} {s : Shared} (I : Inv X pins σ H s) : ∀ {us : List Value} {ps : List (V × D)}, PySem.W.EachIs (SPair X H s.heap) us ps →
    PySem.W.EachIs (fun v b => ∃ as, Reads s.heap v b.2 as) us ps
  | _, _, .nil => .nil
  | _, _, .cons h r => .cons (Dp.reads I _ _ _ h.2.dp h.1) (each_reads I r)
theorem zip_snd {vs : List V} {ds : List D} (h : vs.length = ds.length) : (vs.zip ds).map (·.2) = ds := List.map_snd_zip (by omega)
theorem depth_mem : ∀ {ds : List D} {d : D}, d ∈ ds → d.depth ≤ PyData.depthAll ds
  | d :: ds, e, h => by
    rw [PyData.depthAll]
    rcases List.mem_cons.mp h with rfl | h
    · omega
    · have := depth_mem h
      omega
theorem sort_facts {ds : List D} {r : List D} (h : sortL ds = some r) : PySem.W.AllAlike ds ∧ PySem.W.Sortable ds ∧ PyData.depthAll ds ≤ dMost ∧ ds.length ≤ sizeLine ∧ r = ds.mergeSort (PySem.W.dataLe false id) := by
  unfold sortL at h
  split at h
  · rename_i hz
    obtain ⟨h1, h2, h3, h4⟩ := hz
    cases h
    refine ⟨fun d hd e he => ?_, ?_, h3, h4, rfl⟩
    · exact List.all_eq_true.mp (List.all_eq_true.mp h1 d hd) e he
    · rcases h2 with h2 | h2
      · refine .inl fun d hd => ?_
        have := List.all_eq_true.mp h2 d hd
        cases d <;> try (cases this; done)
        rename_i xs
        cases xs
        · cases this
        · exact ⟨_, _, rfl⟩
      · refine .inr fun d hd => ?_
        have := List.all_eq_true.mp h2 d hd
        cases d <;> first | (cases this; done) | exact ⟨(by intro z; cases z), (by intro xs z; cases z)⟩
  · cases h
theorem perm_out {X : Cx} {H : Hp} {h : Heap} {out : List Value} {vs : List V} {ds : List D} (hl : vs.length = ds.length)
    (e : PySem.W.EachIs (SPair X H h) out ((vs.zip ds).mergeSort (PySem.W.dataLe false fun p : V × D => p.2))) : ∃ vs', Vals vs' out ∧ RepAll X.K H vs' (ds.mergeSort (PySem.W.dataLe false id)) := by
  obtain ⟨h1, h2⟩ := of_each e
  refine ⟨_, h1, ?_⟩
  have e2 : ((vs.zip ds).mergeSort (PySem.W.dataLe false fun p : V × D => p.2)).map (fun p : V × D => p.2) = ds.mergeSort (PySem.W.dataLe false id) := by
    rw [PySem.W.sort_maps (r := PySem.W.dataLe false fun p : V × D => p.2) (s := PySem.W.dataLe false id) (fun p : V × D => p.2) (fun _ _ _ _ => rfl), zip_snd hl]
  rw [e2] at h2
  exact h2

theorem units_in {A : Around} {d n : Nat} (hu : A.units + 200 < cLine) (hd : d ≤ n) (hn : n ≤ dMost) : A.units + 2 + d < cLine := by
  unfold dMost at hn
  omega
theorem mem_zip_snd {vs : List V} {ds : List D} {p : V × D} (h : p ∈ vs.zip ds) : p.2 ∈ ds := (List.of_mem_zip (a := p.1) (b := p.2) h).2
/-- what sorted leaves: a new list of the sorted items -/
theorem sort_end {pins : List (Addr × Obj)} {σ : L2.St} {H : Hp} {s : Shared} {Q : VK} {h' : Heap} {a : Addr} {vs' : List V} {out : List Value} {ds : List D} {n : Nat} (I : Inv X pins σ H s) (k : ∀ b o, s.heap.get? b = some o → h'.get? b = some o) (ha : s.heap.objs.size ≤ a)
    (ho : h'.get? a = some { cls := .type "list", data := .seq out.toArray n }) (r1 : Vals vs' out) (r2 : RepAll X.K H vs' ds) (hz : ds.length ≤ sizeLine) (q : ∀ v H', Same H H' → NR X.K H H' v (.ow ds) → Q v H') (t : Nat) :
    EP X pins σ Q (.ref a) { s with heap := h', toks := t } := by
  have hp : H a = none := I.hok.fresh ha
  have sm : Same H (upd H a (.lst vs')) := same_upd hp
  exact ⟨.ref a, _, I.laid (t' := t) (o := .lst vs') k ha ⟨by rw [r2.length]; exact hz, out, n, r1, ho⟩, rfl, q _ _ sm ⟨_, _, rfl, upd_same, r2.mono (same_ext sm), hp⟩⟩
theorem cb_sorted (hu : X.A.units + 200 < cLine) : CallR X (.builtin "sorted") (rA X.K (bfD .sorted)) := by
  intro pins s σ H xs us Q I r h
  obtain ⟨ds, r0, hd, hb, q⟩ := h
  unfold bfD at hb
  split at hb <;> (try (cases hb; done)) <;> rename_i hs <;> (try (simp at hs; done))
  · obtain ⟨v, rfl, h1⟩ := hd.one
    obtain ⟨e0, hso, rfl⟩ := Option.map_eq_some_iff.mp hb
    obtain ⟨f1, f2, f3, f4, rfl⟩ := sort_facts hso
    obtain ⟨a, vs, its, n, rfl, ra, rv, eo, hz⟩ := listObj I h1
    obtain ⟨u, rfl, ru⟩ := vals1 r
    cases ru
    have hl : vs.length = (‹List D› : List D).length := ra.length
    have ez := zip_snd hl
    have e1 := each_of (h := s.heap) ra rv
    refine PySem.W.sorted_data (bs := vs.zip _) (enc := fun p : V × D => p.2) (vs := its) (l := a) ⟨_, eo, rfl, _, rfl⟩ e1 (each_reads I e1) (by rw [ez]; exact f1) (by rw [ez]; exact f2) (by rw [List.length_zip]; omega) (fun p hp => units_in hu (depth_mem (mem_zip_snd hp)) f3) (fun out ho eo' => ?_)
    obtain ⟨vs', k1, k2⟩ := perm_out hl eo'
    obtain ⟨ep, he'⟩ := PyProof.Rows.sortedAll_at s.heap its (List.toArray out)
    exact sort_end I (fun _ _ => PyProof.Rows.sortedAll_old) (Nat.le_succ _) he' k1 k2 (by rw [List.length_mergeSort]; exact f4) q s.toks
  · obtain ⟨v, rfl, h1⟩ := hd.one
    obtain ⟨e0, hso, rfl⟩ := Option.map_eq_some_iff.mp hb
    obtain ⟨f1, f2, f3, f4, rfl⟩ := sort_facts hso
    obtain ⟨a, vs, rfl, ha, ra⟩ := h1.tup
    obtain ⟨its, rv, ⟨o, eo, hcl, n, hda⟩, hz⟩ := I.tuple ha
    obtain ⟨u, rfl, ru⟩ := vals1 r
    cases ru
    have hl : vs.length = (‹List D› : List D).length := ra.length
    have hlv := rv.length
    have ez := zip_snd hl
    refine PySem.Calls.call_function_entry PyProof.Rows.kind_sorted PyProof.Rows.plain_sorted PyProof.Rows.entry_sorted (PyProof.Rows.args_sorted1 _) ?_
    unfold Builtin.«sorted»
    refine wpAny_bind (m := checkCount "sorted" 1 1 _) (wpAny_pure ?_)
    refine wpAny_bind (wpAny_collect_seq a (.inr rfl) eo hcl hda (fun h1 k1 => ?_) (by rw [List.size_toArray]; omega))
    have I1 : Inv X pins σ H { s with heap := h1 } := I.kept (t' := s.toks) k1
    refine wpAny_bind (wpAny_newList ?_ (by simp; omega))
    have hoL : (h1.push { cls := .type "list", data := .seq its.toArray }).get? h1.objs.size = some (PyProof.Rows.seqObj "list" its.toArray 0) := Heap.get?_push_size _ rfl
    have e1 := each_of (h := h1) ra rv
    have kk : ∀ b o, h1.get? b = some o → (PySem.W.sortingHeap (h1.push { cls := .type "list", data := .seq its.toArray }) h1.objs.size its).get? b = some o := fun b o e =>
      PySem.W.sortingHeap_old (Nat.ne_of_lt (Heap.lt_size e)) (Heap.get?_push_of_some _ e)
    have e2 : PySem.W.EachIs (fun v (b : V × D) => ∃ as, Reads (PySem.W.sortingHeap (h1.push { cls := .type "list", data := .seq its.toArray }) h1.objs.size its) v b.2 as) its (vs.zip ‹List D›) :=
      (each_reads I1 e1).mono fun _ _ ⟨as, r⟩ => ⟨as, PyProof.Rows.Reads.keeps kk r⟩
    have hL : its.length ≤ sizeLine := by omega
    refine wpAny_bind (wpAny_holding (wpAny_call_entry PyProof.Rows.slot_list_sort ⟨_, hoL, rfl⟩ PyProof.Rows.entry_list_sort
      (PySem.W.list_sort_vals (κ := PySem.W.dataKind (PySem.W.sortingHeap (h1.push { cls := .type "list", data := .seq its.toArray }) h1.objs.size its) ((vs.zip ‹List D›).map fun p => p.2)) hoL
        (PySem.W.SortsAt.data (s := { s with heap := PySem.W.sortingHeap (h1.push { cls := .type "list", data := .seq its.toArray }) h1.objs.size its }) (PySem.W.each_map (R := fun v d => ∃ as, Reads _ v d as) (fun p : V × D => p.2) e2) (by rw [ez]; exact f1) (by rw [ez]; exact f2) (PySem.W.bound_map fun p hp => units_in hu (depth_mem (mem_zip_snd hp)) f3)) hL ⟨.none, rfl, ?_⟩) (PyProof.Rows.args_list_sort _)))
    refine wpAny_pure ⟨_, rfl, ?_⟩
    have eo2 := PySem.W.sortVals_data false (h' := PySem.W.sortingHeap (h1.push { cls := .type "list", data := .seq its.toArray }) h1.objs.size its) (enc := fun p : V × D => p.2) (R := SPair X H h1) e1 e2 (by rw [ez]; exact f1)
    obtain ⟨vs', k2, k3⟩ := perm_out hl eo2
    obtain ⟨ep, he'⟩ := PyProof.Rows.sortedHeap_at (vs := its) (out := (PySem.W.sortVals (PySem.W.dataKind (PySem.W.sortingHeap (h1.push { cls := .type "list", data := .seq its.toArray }) h1.objs.size its) ((vs.zip ‹List D›).map fun p => p.2)) false its its).toArray) hoL
    refine sort_end I1 (a := h1.objs.size) (fun b o e => ?_) (Nat.le_refl _) he' k2 k3 (by rw [List.length_mergeSort]; exact f4) q s.toks
    show (sortedHeap _ _ _ _).get? b = some o
    rw [PyProof.Rows.sortedHeap_old (Nat.ne_of_lt (Heap.lt_size e)) (by rw [Heap.size_push]; exact Nat.lt_succ_of_lt (Heap.lt_size e))]
    exact Heap.get?_push_of_some _ e

/-! ### isinstance -/
def Ty.py : Ty → String
  | .int => "int"
  | .bool => "bool"
  | .str => "str"
  | .tuple => "tuple"
  | .list => "list"
  | .dict => "dict"
def dty : D → String
  | .none => "NoneType"
  | .bool _ => "bool"
  | .int _ => "int"
  | .str _ => "str"
  | .list _ => "list"
  | .tuple _ => "tuple"
  | .dict _ => "dict"
theorem tyx_of {K : PySem.W.Frag} {H : Hp} {v : V} {d : D} (h : Rdg K H v d) : TyX K H v (.type (dty d)) := by
  rcases h with h | ⟨a, vs, ds, rfl, rfl, h, r⟩
  · cases h with
    | non => exact .base .non
    | bl b => exact .base (.bl b)
    | int i => exact .base (.int i)
    | str x => exact .base (.str x)
    | tup h _ =>
      rcases h with (h | ⟨o, h⟩) | ⟨o, its, n, h1, h2, _⟩
      · exact .base (.tup h)
      · exact .fTuple h
      · exact .kTuple h1 h2
    | lst h _ =>
      obtain ⟨o, h⟩ := h
      exact .base (.frz h)
  · exact .base (.lst h)
theorem kits : (([.int, .bool, .str, .tuple, .list, .dict] : List Ty).all fun t => ([("NoneType", none), ("bool", some Ty.bool), ("int", some .int), ("str", some .str), ("list", some .list), ("tuple", some .tuple)] : List (String × Option Ty)).all fun p =>
    decide (kitB p.1 t.py = some (match p.2, t with
      | some .bool, .bool => true
      | some .bool, .int => true
      | some .int, .int => true
      | some .str, .str => true
      | some .tuple, .tuple => true
      | some .list, .list => true
      | _, _ => false))) = true := by decide +kernel
theorem kit_all {K : PySem.W.Frag} {H : Hp} {v : V} {d : D} (h : Rdg K H v d) (t : Ty) : PySem.W.kitOne K (.type (dty d)) (.type t.py) = some (isiD d t) := by
  refine kit_ty ?_
  have hp := h.plain
  have k := List.all_eq_true.mp kits t (by cases t <;> simp)
  have k2 := List.all_eq_true.mp k
  cases d with
  | none => exact of_decide_eq_true (k2 ("NoneType", none) (by simp))
  | bool b => exact of_decide_eq_true (k2 ("bool", some Ty.bool) (by simp))
  | int i => exact of_decide_eq_true (k2 ("int", some Ty.int) (by simp))
  | str x => exact of_decide_eq_true (k2 ("str", some Ty.str) (by simp))
  | list xs => exact of_decide_eq_true (k2 ("list", some Ty.list) (by simp))
  | tuple xs => exact of_decide_eq_true (k2 ("tuple", some Ty.tuple) (by simp))
  | dict kvs => cases hp
theorem cb_isi (t : Ty) : CallR X (.builtin "isinstance") (fun xs H Q => ∃ v d, xs = [v, .ty t.py] ∧ Rdg X.K H v d ∧ Q (.bl (isiD d t)) H) := by
  intro pins s σ H xs us Q I r h
  obtain ⟨v, d, rfl, hd, q⟩ := h
  exact call_isi pins s σ H _ us Q I r ⟨_, _, _, _, _, rfl, .ty _, tyx_of hd, kit_all hd t, q⟩
end
end Pu
set_option Elab.async false
set_option maxRecDepth 100000
set_option maxHeartbeats 4000000
set_option linter.all false
/-! P5: readings of terms, construct by construct. -/
namespace Pu
open PySem PySem.Spec PyProof.Rows L2

theorem pe_weak {X : Cx} {e : Expr} {t t' : TE} (h : PE X e t) (k : ∀ σ H Q, t' σ H Q → t σ H Q) : PE X e t' := ⟨fun pins s σ H Q I q => h.run pins s σ H Q I (k σ H Q q)⟩
theorem pt_weak {X : Cx} {e : Expr} {t t' : TT} (h : PT X e t) (k : ∀ σ H Q, t' σ H Q → t σ H Q) : PT X e t' := ⟨fun pins s σ H Q I q => h.run pins s σ H Q I (k σ H Q q)⟩
theorem pw_weak {X : Cx} {e : Expr} {t t' : TT} (h : PW X e t) (k : ∀ σ H Q, t' σ H Q → t σ H Q) : PW X e t' := ⟨fun wh pins s σ H Q I q => h.run wh pins s σ H Q I (k σ H Q q)⟩
theorem pa_weak {X : Cx} {es : List Expr} {t t' : TA} (h : PA X es t) (k : ∀ σ H Q, t' σ H Q → t σ H Q) : PA X es t' := ⟨fun pos pins s σ H Q I q => h.run pos pins s σ H Q I (k σ H Q q)⟩

/-- a list is never changed from now on -/
theorem inv_freeze {X : Cx} {pins : List (Addr × Obj)} {σ : L2.St} {H : Hp} {s : Shared} {a : Addr} {vs : List V} (I : Inv X pins σ H s) (h : H a = some (.lst vs)) : ∃ o, Inv X pins σ (upd H a (.frz o (.lst vs))) s := by
  obtain ⟨hz, its, n, r, e⟩ := I.hok a _ h
  have ne : ∀ {b u}, H b = some u → u ≠ .lst vs → b ≠ a := fun {b u} q n z => by rw [z, h] at q; cases q; exact n rfl
  refine ⟨{ cls := .type "list", data := .seq its.toArray n }, I.un (h' := s.heap) (t' := s.toks) ⟨fun b u q _ _ _ => q, fun b u q _ _ _ => ⟨u.slots, q⟩, fun b u _ n _ => ?_, fun b u q _ => ⟨u, q⟩, fun b xs q => ?_, fun b u w q => ?_, fun b ps q => ⟨#[], ?_⟩⟩ fun b u q => ?_⟩
  · rw [upd_ne (by intro z; rw [z, h] at n; cases n)]; exact n
  · rw [upd_ne (ne q (by intro z; cases z))]; exact q
  · rw [upd_ne (ne q (by intro z; cases z))]; exact q
  · rw [upd_ne (ne q (by intro z; cases z)), q]; simp
  · by_cases hb : b = a
    · subst hb
      rw [upd_same] at q
      cases q
      exact ⟨e, hz, its, n, r, e⟩
    · rw [upd_ne hb] at q
      refine (I.hok b u q).stay (fun _ _ _ z => z) (fun d z => ?_) fun d xs z => ?_
      · rw [upd_ne (ne z (by intro y; cases y))]; exact z
      · rw [upd_ne (ne z (by intro y; cases y))]; exact z

structure Pre (K : PySem.W.Frag) (Γ : Gh) (H0 : Hp) (σ : L2.St) (H : Hp) (ρ : Env) (g : G) : Prop where
  env : EnvR K Γ H0 H σ ρ
  gen : GenOk Γ H g
  old : Sm Γ H0 H
theorem Pre.step {K : PySem.W.Frag} {Γ : Gh} {H0 : Hp} {σ : L2.St} {H H' : Hp} {ρ : Env} {g g' : G} (p : Pre K Γ H0 σ H ρ g) (s : Sm Γ H H') (o : GenOk Γ H' g') : Pre K Γ H0 σ H' ρ g' := ⟨p.env.sm s p.gen, o, p.old.trans s⟩

/-- what is said behind an expression -/
structure Post (K : PySem.W.Frag) (Γ : Gh) (H0 H : Hp) (r : Vl) (g' : G) (v : V) (H' : Hp) : Prop where
  sm : Sm Γ H H'
  gen : GenOk Γ H' g'
  val : VR K Γ H0 H H' v r
def tE (K : PySem.W.Frag) (Γ : Gh) (H0 : Hp) (c : Cf) (e : E) : TE := fun σ H Q => ∃ ρ g r g', Pre K Γ H0 σ H ρ g ∧ ev c e ρ g = some (r, g') ∧ ∀ v H', Post K Γ H0 H r g' v H' → Q v H'
/-- as data that is kept -/
def tD (K : PySem.W.Frag) (Γ : Gh) (H0 : Hp) (c : Cf) (e : E) : TE := fun σ H Q => ∃ ρ g r g' d, Pre K Γ H0 σ H ρ g ∧ ev c e ρ g = some (r, g') ∧ r.share = some d ∧ ∀ v H', Sm Γ H H' → GenOk Γ H' g' → Rep K H' v d → Q v H'
def tT (K : PySem.W.Frag) (Γ : Gh) (H0 : Hp) (c : Cf) (e : E) : TT := fun σ H Q => ∃ ρ g b g', Pre K Γ H0 σ H ρ g ∧ evT c e ρ g = some (b, g') ∧ ∀ H', Sm Γ H H' → GenOk Γ H' g' → Q b H'
/-- a row that is kept; a row that is looked at -/
def tA (K : PySem.W.Frag) (Γ : Gh) (H0 : Hp) (c : Cf) (es : E) : TA := fun σ H Q => ∃ ρ g ds g', Pre K Γ H0 σ H ρ g ∧ ev c es ρ g = some (.sh (.tuple ds), g') ∧ ∀ vs H', Sm Γ H H' → GenOk Γ H' g' → RepAll K H' vs ds → Q vs H'
def tR (K : PySem.W.Frag) (Γ : Gh) (H0 : Hp) (c : Cf) (es : E) : TA := fun σ H Q => ∃ ρ g ds g', Pre K Γ H0 σ H ρ g ∧ ev.evR c es ρ g = some (ds, g') ∧ ∀ vs H', Sm Γ H H' → GenOk Γ H' g' → RdA K H' vs ds → Q vs H'
inductive VRs (K : PySem.W.Frag) (Γ : Gh) (H0 Hs H : Hp) : List V → List Vl → Prop
  | nil : VRs K Γ H0 Hs H [] []
  | cons {v : V} {vs : List V} {u : Vl} {us : List Vl} : VR K Γ H0 Hs H v u → (∀ (j : Nat) w, us[j]? = some w → u.own = true → w.own = true → vs[j]? ≠ some v) → VRs K Γ H0 Hs H vs us → VRs K Γ H0 Hs H (v :: vs) (u :: us)
def tP (K : PySem.W.Frag) (Γ : Gh) (H0 : Hp) (c : Cf) (es : E) : TA := fun σ H Q => ∃ ρ g us g', Pre K Γ H0 σ H ρ g ∧ evP c es ρ g = some (us, g') ∧ ∀ vs H', Sm Γ H H' → GenOk Γ H' g' → VRs K Γ H0 H H' vs us → Q vs H'

section
variable {X : Cx} {Γ : Gh} {H0 : Hp} {c : Cf} {pos : Pos}

theorem s_share {e : E} {x : Expr} (h : PE X x (tE X.K Γ H0 c e)) : PE X x (tD X.K Γ H0 c e) := by
  refine ⟨fun pins s σ H Q I hq => ?_⟩
  obtain ⟨ρ, g, r, g', d, p, he, hd, q⟩ := hq
  refine thn (h.run pins s σ H (fun v H1 => Post X.K Γ H0 H r g' v H1) I ⟨ρ, g, r, g', p, he, fun v H1 h => h⟩) fun u s1 ⟨v, H1, I1, rv, po⟩ => ?_
  cases r with
  | sh d' =>
    cases hd
    exact ⟨v, H1, I1, rv, q v H1 po.sm po.gen po.val⟩
  | ow xs =>
    cases hd
    obtain ⟨a, vs, rfl, h1, h2, h3, h4⟩ := po.val
    obtain ⟨o, I2⟩ := inv_freeze I1 h1
    have nb : ∀ {b u}, H b = some u → b ≠ a := fun {b u} q z => by rw [z, h4] at q; cases q
    have sm2 : Sm Γ H (upd H1 a (.frz o (.lst vs))) := fun b u q n1 n2 => by rw [upd_ne (nb q)]; exact po.sm b u q n1 n2
    have go2 : GenOk Γ (upd H1 a (.frz o (.lst vs))) g' := ⟨by rw [upd_ne (Ne.symm h3.nga)]; exact po.gen.1, by rw [upd_ne (Ne.symm h3.ngb)]; exact po.gen.2.1, po.gen.2.2⟩
    have ex : Ext H1 (upd H1 a (.frz o (.lst vs))) := ⟨fun b xs q => by rw [upd_ne (by intro z; rw [z, h1] at q; cases q)]; exact q, fun b x y q => by rw [upd_ne (by intro z; rw [z, h1] at q; cases q)]; exact q⟩
    exact ⟨.ref a, _, I2, rv, q _ _ sm2 go2 (.lst ⟨o, upd_same⟩ (h2.mono ex))⟩
  | bw xs => cases hd
  | od xs => cases hd
  | bd xs => cases hd
  | gen => cases hd

/-! ### names, constants -/
theorem SR.borrow {K : PySem.W.Frag} {H H' : Hp} {v : V} : ∀ {u : Vl}, SR K Γ H0 H v u → VR K Γ H0 H' H v u.borrow
  | .sh _, h => h
  | .ow _, h => h
  | .od _, h => h
  | .gen, h => h
theorem s_nm {i : Nat} {x : Str} (h : PE X (.Name x pos) (tVar i)) : PE X (.Name x pos) (tE X.K Γ H0 c (.nm i)) := pe_weak h fun σ H Q hq => by
  obtain ⟨ρ, g, r, g', p, he, q⟩ := hq
  simp only [ev] at he
  split at he
  · rename_i u hu
    cases he
    obtain ⟨v, h1, h2⟩ := p.env.get i u hu
    exact ⟨v, h1, q v H ⟨Sm.refl _ _, p.gen, h2.borrow⟩⟩
  · cases he
theorem s_cst {e : E} {x : Expr} {v : V} {d : D} (h : PE X x (tC v)) (he : ∀ ρ g, ev c e ρ g = some (.sh d, g)) (hd : ∀ H, Rep X.K H v d) : PE X x (tE X.K Γ H0 c e) := pe_weak h fun σ H Q hq => by
  obtain ⟨ρ, g, r, g', p, hev, q⟩ := hq
  rw [he] at hev
  cases hev
  exact q v H ⟨Sm.refl _ _, p.gen, hd H⟩
theorem s_int {i : Int} {k : Nat} : PE X (.Constant (.int i) k pos) (tE X.K Γ H0 c (.int i)) := s_cst pe_int (fun _ _ => rfl) fun _ => .int i
theorem s_str {x : Str} {k : Nat} : PE X (.Constant (.str x) k pos) (tE X.K Γ H0 c (.str x)) := s_cst pe_str (fun _ _ => rfl) fun _ => .str x
theorem s_bl {b : Bool} {k : Nat} : PE X (.Constant (.bool b) k pos) (tE X.K Γ H0 c (.bl b)) := s_cst pe_bl (fun _ _ => rfl) fun _ => .bl b
theorem s_non {k : Nat} : PE X (.Constant .none k pos) (tE X.K Γ H0 c .non) := s_cst pe_non (fun _ _ => rfl) fun _ => .non

/-! ### rows -/
theorem s_nil : PA X [] (tA X.K Γ H0 c .nil) := pa_weak pa_nil fun σ H Q hq => by
  obtain ⟨ρ, g, ds, g', p, he, q⟩ := hq
  cases he
  exact q [] H (Sm.refl _ _) p.gen .nil
theorem s_cons {a b : E} {x : Expr} {xs : List Expr} (ha : PE X x (tE X.K Γ H0 c a)) (hb : PA X xs (tA X.K Γ H0 c b)) (hs : starEach (x :: xs) X.env = (false, eval x X.env) :: starEach xs X.env) : PA X (x :: xs) (tA X.K Γ H0 c (.cons a b)) :=
  pa_weak (pa_cons (s_share ha) hb hs) fun σ H Q hq => by
    obtain ⟨ρ, g, ds, g', p, he, q⟩ := hq
    simp only [ev, Option.bind_eq_bind, Option.bind_eq_some_iff] at he
    obtain ⟨⟨va, g1⟩, ea, d, hd, ⟨vb, g2⟩, eb, he⟩ := he
    split at he
    · rename_i es hes
      cases he
      dsimp only at hes
      subst hes
      refine ⟨ρ, g, va, g1, d, p, ea, hd, fun v H1 sm1 go1 r1 => ⟨ρ, g1, es, _, p.step sm1 go1, eb, fun vs H2 sm2 go2 r2 => ?_⟩⟩
      exact q _ H2 (sm1.trans sm2) go2 (.cons (r1.mono (sm2.ext go1)) r2)
    · cases he
theorem s_rnil : PA X [] (tR X.K Γ H0 c .nil) := pa_weak pa_nil fun σ H Q hq => by
  obtain ⟨ρ, g, ds, g', p, he, q⟩ := hq
  cases he
  exact q [] H (Sm.refl _ _) p.gen .nil
theorem VR.rdg_sm {K : PySem.W.Frag} {Hs H H' : Hp} {g : G} {v : V} {r : Vl} {d : D} (h : VR K Γ H0 Hs H v r) (e : r.rd = some d) (s : Sm Γ H H') (o : GenOk Γ H g) : Rdg K H' v d := (h.sm s o).rdg e
theorem s_rcons {a b : E} {x : Expr} {xs : List Expr} (ha : PE X x (tE X.K Γ H0 c a)) (hb : PA X xs (tR X.K Γ H0 c b)) (hs : starEach (x :: xs) X.env = (false, eval x X.env) :: starEach xs X.env) : PA X (x :: xs) (tR X.K Γ H0 c (.cons a b)) :=
  pa_weak (pa_cons ha hb hs) fun σ H Q hq => by
    obtain ⟨ρ, g, ds, g', p, he, q⟩ := hq
    simp only [ev.evR, Option.bind_eq_bind, Option.bind_eq_some_iff] at he
    obtain ⟨⟨va, g1⟩, ea, d, hd, ⟨vb, g2⟩, eb, he⟩ := he
    cases he
    refine ⟨ρ, g, va, g1, p, ea, fun v H1 p1 => ⟨ρ, g1, vb, _, p.step p1.sm p1.gen, eb, fun vs H2 sm2 go2 r2 => ?_⟩⟩
    exact q _ H2 (p1.sm.trans sm2) go2 (.cons (p1.val.rdg_sm hd sm2 p1.gen) r2)
theorem s_tu {es : E} {xs : List Expr} {k : Nat} (h : PA X xs (tA X.K Γ H0 c es)) (hl : ∀ ρ g ds g', ev c es ρ g = some (.sh (.tuple ds), g') → ds.length ≤ sizeLine) (hsh : ∀ ρ g r g', ev c es ρ g = some (r, g') → ∃ ds, r = .sh (.tuple ds)) :
    PE X (.Tuple xs k pos) (tE X.K Γ H0 c (.tu es)) := pe_weak (pe_tup h) fun σ H Q hq => by
  obtain ⟨ρ, g, r, g', p, he, q⟩ := hq
  simp only [ev] at he
  obtain ⟨ds, rfl⟩ := hsh _ _ _ _ he
  refine ⟨ρ, g, ds, g', p, he, fun vs H1 sm1 go1 r1 => ⟨by rw [r1.length]; exact hl _ _ _ _ he, fun a ha => ?_⟩⟩
  have sm : Same H1 (upd H1 a (.tup vs)) := same_upd ha
  exact q _ _ ⟨sm1.trans (same_sm sm Γ), go1.same sm, .tup (SqT.of upd_same) (r1.mono (same_ext sm))⟩
theorem s_li {es : E} {xs : List Expr} (h : PA X xs (tA X.K Γ H0 c es)) (hl : ∀ ρ g ds g', ev c es ρ g = some (.sh (.tuple ds), g') → ds.length ≤ sizeLine) :
    PE X (.List xs pos) (tE X.K Γ H0 c (.li es)) := pe_weak (pe_lst h) fun σ H Q hq => by
  obtain ⟨ρ, g, r, g', p, he, q⟩ := hq
  simp only [ev, Option.bind_eq_bind, Option.bind_eq_some_iff] at he
  obtain ⟨⟨vs, g1⟩, ea, he⟩ := he
  split at he
  · rename_i ds hds
    cases he
    dsimp only at hds
    subst hds
    refine ⟨ρ, g, ds, g1, p, ea, fun vs H1 sm1 go1 r1 => ⟨by rw [r1.length]; exact hl _ _ _ _ ea, fun a ha => ?_⟩⟩
    have sm : Same H1 (upd H1 a (.lst vs)) := same_upd ha
    refine q _ _ ⟨sm1.trans (same_sm sm Γ), go1.same sm, NR.vr (p.old.trans sm1) sm1 go1 (H' := upd H1 a (.lst vs)) (r := .ow ds) ⟨_, _, rfl, upd_same, r1.mono (same_ext sm), ha⟩⟩
  · cases he

/-! ### operators -/
theorem s_bi {op : BOp} {a b : E} {x y : Expr} (ha : PE X x (tE X.K Γ H0 c a)) (hb : PE X y (tE X.K Γ H0 c b)) : PE X (.BinOp x op.py y pos) (tE X.K Γ H0 c (.bi op a b)) :=
  pe_weak (pe_op (op_binD op) ha hb) fun σ H Q hq => by
    obtain ⟨ρ, g, r, g', p, he, q⟩ := hq
    simp only [ev, Option.bind_eq_bind, Option.bind_eq_some_iff] at he
    obtain ⟨⟨va, g1⟩, ea, d, hd, ⟨vb, g2⟩, eb, e, hy, r, hr, he⟩ := he
    cases he
    refine ⟨ρ, g, va, g1, p, ea, fun v H1 p1 => ⟨ρ, g1, vb, _, p.step p1.sm p1.gen, eb, fun u H2 p2 => ⟨d, e, r, p1.val.rdg_sm hd p2.sm p1.gen, p2.val.rdg hy, hr, fun w H3 s3 n3 => ?_⟩⟩⟩
    exact q _ _ ⟨(p1.sm.trans p2.sm).trans (same_sm s3 Γ), p2.gen.same s3, n3.vr (p.old.trans (p1.sm.trans p2.sm)) (p1.sm.trans p2.sm) p2.gen⟩
theorem s_neg {a : E} {x : Expr} (ha : PE X x (tE X.K Γ H0 c a)) : PE X (.UnaryOp .USub x pos) (tE X.K Γ H0 c (.neg a)) :=
  pe_weak (pe_un un_neg ha) fun σ H Q hq => by
    obtain ⟨ρ, g, r, g', p, he, q⟩ := hq
    simp only [ev, Option.bind_eq_bind, Option.bind_eq_some_iff] at he
    obtain ⟨⟨va, g1⟩, ea, he⟩ := he
    split at he
    · rename_i i hi
      cases he
      dsimp only at hi
      subst hi
      refine ⟨ρ, g, _, g1, p, ea, fun v H1 p1 => ?_⟩
      have e : v = .int i := (Rdg.int (.inl p1.val))
      exact ⟨i, e, q _ _ ⟨p1.sm, p1.gen, .int _⟩⟩
    · cases he
theorem s_cm (hu : X.A.units + 200 < cLine) {op : COp} {a b : E} {x y : Expr} (ha : PE X x (tE X.K Γ H0 c a)) (hb : PE X y (tE X.K Γ H0 c b)) (hm : behindInMarks op.py y = false) : PE X (.Compare x [op.py] [y] pos) (tE X.K Γ H0 c (.cm op a b)) :=
  pe_weak (pe_cmpR (op_cmpD hu op) ha hb hm) fun σ H Q hq => by
    obtain ⟨ρ, g, r, g', p, he, q⟩ := hq
    simp only [ev, Option.bind_eq_bind, Option.bind_eq_some_iff] at he
    obtain ⟨⟨va, g1⟩, ea, d, hd, ⟨vb, g2⟩, eb, e, hy, r, hr, he⟩ := he
    cases he
    refine ⟨ρ, g, va, g1, p, ea, fun v H1 p1 => ⟨ρ, g1, vb, _, p.step p1.sm p1.gen, eb, fun u H2 p2 => ⟨d, e, r, p1.val.rdg_sm hd p2.sm p1.gen, p2.val.rdg hy, hr, ?_⟩⟩⟩
    exact q _ _ ⟨p1.sm.trans p2.sm, p2.gen, .bl _⟩
theorem s_ch (hu : X.A.units + 200 < cLine) {o1 o2 : COp} {a b d : E} {x y z : Expr} (ha : PE X x (tE X.K Γ H0 c a)) (hb : PE X y (tE X.K Γ H0 c b)) (hd : PE X z (tE X.K Γ H0 c d)) (hm : lastMarks [o1.py, o2.py] [y, z] = false) :
    PE X (.Compare x [o1.py, o2.py] [y, z] pos) (tE X.K Γ H0 c (.ch o1 o2 a b d)) :=
  pe_weak (pe_chain (op_cmpD hu o1) (op_cmpD hu o2) ha hb hd hm) fun σ H Q hq => by
    obtain ⟨ρ, g, r, g', p, he, q⟩ := hq
    simp only [ev, Option.bind_eq_bind, Option.bind_eq_some_iff] at he
    obtain ⟨⟨va, g1⟩, ea, d, hd, ⟨vb, g2⟩, eb, e, hy, r, hr, he⟩ := he
    refine ⟨ρ, g, va, g1, p, ea, fun v H1 p1 => ⟨ρ, g1, vb, _, p.step p1.sm p1.gen, eb, fun u H2 p2 => ⟨d, e, r, p1.val.rdg_sm hd p2.sm p1.gen, p2.val.rdg hy, hr, r, rfl, ?_⟩⟩⟩
    cases r with
    | false =>
      rw [if_neg Bool.false_ne_true] at he ⊢
      cases he
      exact q _ _ ⟨p1.sm.trans p2.sm, p2.gen, .bl _⟩
    | true =>
      rw [if_pos rfl] at he ⊢
      simp only [Option.bind_eq_some_iff] at he
      obtain ⟨⟨vd, g3⟩, ed, f, hf, r2, hr2, he⟩ := he
      cases he
      refine ⟨ρ, g2, vd, _, (p.step p1.sm p1.gen).step p2.sm p2.gen, ed, fun w H3 p3 => ⟨e, f, r2, p2.val.rdg_sm hy p3.sm p2.gen, p3.val.rdg hf, hr2, ?_⟩⟩
      exact q _ _ ⟨(p1.sm.trans p2.sm).trans p3.sm, p3.gen, .bl _⟩

/-! ### truth -/
theorem truV_vr {K : PySem.W.Frag} {Hs H : Hp} {v : V} {r : Vl} {b : Bool} (h : VR K Γ H0 Hs H v r) (e : truth r = some b) : TruV K v H b := by
  cases r with
  | sh d => exact truV_of (.inl h) e
  | ow xs =>
    cases e
    obtain ⟨a, vs, rfl, h1, h2, _⟩ := h
    exact .inl ⟨vs, SqL.of h1, by rw [isEmpty_rep h2]⟩
  | bw xs =>
    cases e
    obtain ⟨a, vs, rfl, h1, h2, _⟩ := h
    exact .inl ⟨vs, SqL.of h1, by rw [isEmpty_rep h2]⟩
  | od xs => cases e
  | bd xs => cases e
  | gen => cases e
theorem VR.from {K : PySem.W.Frag} {Hs Ht H : Hp} {v : V} (k : ∀ b, Ht b = none → Hs b = none) : ∀ {r : Vl}, VR K Γ H0 Ht H v r → VR K Γ H0 Hs H v r
  | .sh _, h => h
  | .ow _, ⟨a, vs, e, h1, h2, h3, h4⟩ => ⟨a, vs, e, h1, h2, h3, k a h4⟩
  | .bw _, h => h
  | .od _, ⟨a, vs, e, h1, h2, h3, h4⟩ => ⟨a, vs, e, h1, h2, h3, k a h4⟩
  | .bd _, h => h
  | .gen, h => h
theorem Sm.none {H H1 : Hp} {g g1 : G} (s : Sm Γ H H1) (o1 : GenOk Γ H1 g1) : ∀ b, H1 b = none → H b = none := fun b h => (new_at s o1 h (fun _ _ => True.intro)).new
theorem Post.then {K : PySem.W.Frag} {H H1 H2 : Hp} {g1 g2 : G} {r : Vl} {v : V} (s : Sm Γ H H1) (o1 : GenOk Γ H1 g1) (p : Post K Γ H0 H1 r g2 v H2) : Post K Γ H0 H r g2 v H2 :=
  ⟨s.trans p.sm, p.gen, p.val.from (Sm.none (g := g1) s o1)⟩
theorem s_an {a b : E} {x y : Expr} {r : List Expr} (ha : PE X x (tE X.K Γ H0 c a)) (hb : PE X (.BoolOp .And (y :: r) pos) (tE X.K Γ H0 c b)) : PE X (.BoolOp .And (x :: y :: r) pos) (tE X.K Γ H0 c (.an a b)) :=
  pe_weak (pe_andT ha hb) fun σ H Q hq => by
    obtain ⟨ρ, g, r, g', p, he, q⟩ := hq
    simp only [ev, Option.bind_eq_bind, Option.bind_eq_some_iff] at he
    obtain ⟨⟨va, g1⟩, ea, t, ht, he⟩ := he
    refine ⟨ρ, g, va, g1, p, ea, fun v H1 p1 => ⟨t, truV_vr p1.val ht, ?_⟩⟩
    cases t with
    | false =>
      simp only [Bool.false_eq_true, if_false] at he ⊢
      cases he
      exact q _ _ p1
    | true =>
      simp only [if_true] at he ⊢
      exact ⟨ρ, g1, r, g', p.step p1.sm p1.gen, he, fun u H2 p2 => q _ _ (p2.then p1.sm p1.gen)⟩
theorem s_or {a b : E} {x y : Expr} {r : List Expr} (ha : PE X x (tE X.K Γ H0 c a)) (hb : PE X (.BoolOp .Or (y :: r) pos) (tE X.K Γ H0 c b)) : PE X (.BoolOp .Or (x :: y :: r) pos) (tE X.K Γ H0 c (.or a b)) :=
  pe_weak (pe_orT ha hb) fun σ H Q hq => by
    obtain ⟨ρ, g, r, g', p, he, q⟩ := hq
    simp only [ev, Option.bind_eq_bind, Option.bind_eq_some_iff] at he
    obtain ⟨⟨va, g1⟩, ea, t, ht, he⟩ := he
    refine ⟨ρ, g, va, g1, p, ea, fun v H1 p1 => ⟨t, truV_vr p1.val ht, ?_⟩⟩
    cases t with
    | true =>
      simp only [if_true] at he ⊢
      cases he
      exact q _ _ p1
    | false =>
      simp only [Bool.false_eq_true, if_false] at he ⊢
      exact ⟨ρ, g1, r, g', p.step p1.sm p1.gen, he, fun u H2 p2 => q _ _ (p2.then p1.sm p1.gen)⟩
theorem s_no {a : E} {x : Expr} (ha : PE X x (tE X.K Γ H0 c a)) : PE X (.UnaryOp .Not x pos) (tE X.K Γ H0 c (.no a)) :=
  pe_weak (pe_notT ha) fun σ H Q hq => by
    obtain ⟨ρ, g, r, g', p, he, q⟩ := hq
    simp only [ev, Option.bind_eq_bind, Option.bind_eq_some_iff] at he
    obtain ⟨⟨va, g1⟩, ea, t, ht, he⟩ := he
    cases he
    exact ⟨ρ, g, va, g1, p, ea, fun v H1 p1 => ⟨t, truV_vr p1.val ht, q _ _ ⟨p1.sm, p1.gen, .bl _⟩⟩⟩
/-! tests -/
theorem s_tru {a : E} {x : Expr} (ha : PE X x (tE X.K Γ H0 c a)) (hp : ∀ whole, isTrue x X.env whole = (do let v ← whole; standAt x.pos; holding [v] (truthy v))) : PT X x (tT X.K Γ H0 c a) :=
  pt_weak (pt_truth ha hp) fun σ H Q hq => by
    obtain ⟨ρ, g, b, g', p, he, q⟩ := hq
    simp only [evT, Option.bind_eq_bind, Option.bind_eq_some_iff] at he
    obtain ⟨⟨va, g1⟩, ea, t, ht, he⟩ := he
    cases he
    exact ⟨ρ, g, va, _, p, ea, fun v H1 p1 => ⟨_, truV_vr p1.val ht, q _ p1.sm p1.gen⟩⟩
theorem s_cmT (hu : X.A.units + 200 < cLine) {op : COp} {a b : E} {x y : Expr} (ha : PE X x (tE X.K Γ H0 c a)) (hb : PE X y (tE X.K Γ H0 c b)) (hm : behindInMarks op.py y = false) : PT X (.Compare x [op.py] [y] pos) (tT X.K Γ H0 c (.cm op a b)) :=
  pt_weak (pt_cmpR (op_cmpD hu op) ha hb hm) fun σ H Q hq => by
    obtain ⟨ρ, g, r, g', p, he, q⟩ := hq
    simp only [evT, ev, Option.bind_eq_bind, Option.bind_eq_some_iff] at he
    obtain ⟨⟨vz, g3⟩, ⟨⟨va, g1⟩, ea, d, hd, ⟨vb, g2⟩, eb, e, hy, r, hr, he⟩, b, hb, he2⟩ := he
    cases he
    cases he2
    cases hb
    refine ⟨ρ, g, va, g1, p, ea, fun v H1 p1 => ⟨ρ, g1, vb, _, p.step p1.sm p1.gen, eb, fun u H2 p2 => ⟨d, e, _, p1.val.rdg_sm hd p2.sm p1.gen, p2.val.rdg hy, hr, _, rfl, ?_⟩⟩⟩
    exact q _ (p1.sm.trans p2.sm) p2.gen
theorem s_chT (hu : X.A.units + 200 < cLine) {o1 o2 : COp} {a b d : E} {x y z : Expr} (ha : PE X x (tE X.K Γ H0 c a)) (hb : PE X y (tE X.K Γ H0 c b)) (hd : PE X z (tE X.K Γ H0 c d)) (hm : lastMarks [o1.py, o2.py] [y, z] = false) :
    PT X (.Compare x [o1.py, o2.py] [y, z] pos) (tT X.K Γ H0 c (.ch o1 o2 a b d)) :=
  pt_weak (pt_chain (op_cmpD hu o1) (op_cmpD hu o2) ha hb hd hm) fun σ H Q hq => by
    obtain ⟨ρ, g, r, g', p, he, q⟩ := hq
    simp only [evT, ev, Option.bind_eq_bind, Option.bind_eq_some_iff] at he
    obtain ⟨⟨vz, gz⟩, ⟨⟨va, g1⟩, ea, d, hd, ⟨vb, g2⟩, eb, e, hy, r, hr, he⟩, tb, htb, he2⟩ := he
    cases he2
    refine ⟨ρ, g, va, g1, p, ea, fun v H1 p1 => ⟨ρ, g1, vb, _, p.step p1.sm p1.gen, eb, fun u H2 p2 => ⟨d, e, r, p1.val.rdg_sm hd p2.sm p1.gen, p2.val.rdg hy, hr, r, rfl, ?_⟩⟩⟩
    cases r with
    | false =>
      rw [if_neg Bool.false_ne_true] at he ⊢
      cases he
      cases htb
      exact ⟨_, rfl, q _ (p1.sm.trans p2.sm) p2.gen⟩
    | true =>
      rw [if_pos rfl] at he ⊢
      simp only [Option.bind_eq_some_iff] at he
      obtain ⟨⟨vd, g3⟩, ed, f, hf, r2, hr2, he⟩ := he
      cases he
      cases htb
      refine ⟨ρ, g2, vd, _, (p.step p1.sm p1.gen).step p2.sm p2.gen, ed, fun w H3 p3 => ⟨e, f, _, p2.val.rdg_sm hy p3.sm p2.gen, p3.val.rdg hf, hr2, _, rfl, ?_⟩⟩
      exact q _ ((p1.sm.trans p2.sm).trans p3.sm) p3.gen
theorem s_noT {a : E} {x : Expr} (ha : PT X x (tT X.K Γ H0 c a)) : PT X (.UnaryOp .Not x pos) (tT X.K Γ H0 c (.no a)) :=
  pt_weak (pt_not ha) fun σ H Q hq => by
    obtain ⟨ρ, g, r, g', p, he, q⟩ := hq
    simp only [evT, ev, Option.bind_eq_bind, Option.bind_eq_some_iff] at he
    obtain ⟨⟨vz, gz⟩, ⟨⟨va, g1⟩, ea, t, ht, he⟩, tb, htb, he2⟩ := he
    cases he
    cases he2
    cases htb
    refine ⟨ρ, g, t, _, p, ?_, q⟩
    simp only [evT, ea, Option.bind_eq_bind, Option.bind_some, ht]
theorem evT_an {a b : E} {ρ : Env} {g g' : G} {r : Bool} (h : evT c (.an a b) ρ g = some (r, g')) : ∃ t g1, evT c a ρ g = some (t, g1) ∧ if t = true then evT c b ρ g1 = some (r, g') else r = false ∧ g' = g1 := by
  simp only [evT, ev, Option.bind_eq_bind, Option.bind_eq_some_iff] at h
  obtain ⟨⟨vz, gz⟩, ⟨⟨va, g1⟩, ea, t, ht, he⟩, tb, htb, he2⟩ := h
  cases he2
  refine ⟨t, g1, by simp only [evT, ea, Option.bind_eq_bind, Option.bind_some, ht], ?_⟩
  cases t with
  | true =>
    simp only [if_true] at he ⊢
    simp only [evT, he, Option.bind_eq_bind, Option.bind_some, htb]
  | false =>
    simp only [Bool.false_eq_true, if_false] at he ⊢
    cases he
    rw [ht] at htb
    cases htb
    exact ⟨rfl, rfl⟩
theorem evT_or {a b : E} {ρ : Env} {g g' : G} {r : Bool} (h : evT c (.or a b) ρ g = some (r, g')) : ∃ t g1, evT c a ρ g = some (t, g1) ∧ if t = true then r = true ∧ g' = g1 else evT c b ρ g1 = some (r, g') := by
  simp only [evT, ev, Option.bind_eq_bind, Option.bind_eq_some_iff] at h
  obtain ⟨⟨vz, gz⟩, ⟨⟨va, g1⟩, ea, t, ht, he⟩, tb, htb, he2⟩ := h
  cases he2
  refine ⟨t, g1, by simp only [evT, ea, Option.bind_eq_bind, Option.bind_some, ht], ?_⟩
  cases t with
  | false =>
    simp only [Bool.false_eq_true, if_false] at he ⊢
    simp only [evT, he, Option.bind_eq_bind, Option.bind_some, htb]
  | true =>
    simp only [if_true] at he ⊢
    cases he
    rw [ht] at htb
    cases htb
    exact ⟨rfl, rfl⟩
theorem s_anT {a b : E} {x y : Expr} {r : List Expr} (ha : PT X x (tT X.K Γ H0 c a)) (hb : PW X (.BoolOp .And (y :: r) pos) (tT X.K Γ H0 c b)) : PW X (.BoolOp .And (x :: y :: r) pos) (tT X.K Γ H0 c (.an a b)) :=
  pw_weak (pw_and ha hb) fun σ H Q hq => by
    obtain ⟨ρ, g, r, g', p, he, q⟩ := hq
    obtain ⟨t, g1, e1, e2⟩ := evT_an he
    refine ⟨ρ, g, t, g1, p, e1, fun H1 sm1 go1 => ?_⟩
    cases t with
    | true =>
      simp only [if_true] at e2 ⊢
      exact ⟨ρ, g1, r, g', p.step sm1 go1, e2, fun H2 sm2 go2 => q _ (sm1.trans sm2) go2⟩
    | false =>
      simp only [Bool.false_eq_true, if_false] at e2 ⊢
      obtain ⟨rfl, rfl⟩ := e2
      exact q _ sm1 go1
theorem s_orT {a b : E} {x y : Expr} {r : List Expr} (ha : PT X x (tT X.K Γ H0 c a)) (hb : PW X (.BoolOp .Or (y :: r) pos) (tT X.K Γ H0 c b)) : PW X (.BoolOp .Or (x :: y :: r) pos) (tT X.K Γ H0 c (.or a b)) :=
  pw_weak (pw_or ha hb) fun σ H Q hq => by
    obtain ⟨ρ, g, r, g', p, he, q⟩ := hq
    obtain ⟨t, g1, e1, e2⟩ := evT_or he
    refine ⟨ρ, g, t, g1, p, e1, fun H1 sm1 go1 => ?_⟩
    cases t with
    | false =>
      simp only [Bool.false_eq_true, if_false] at e2 ⊢
      exact ⟨ρ, g1, r, g', p.step sm1 go1, e2, fun H2 sm2 go2 => q _ (sm1.trans sm2) go2⟩
    | true =>
      simp only [if_true] at e2 ⊢
      obtain ⟨rfl, rfl⟩ := e2
      exact q _ sm1 go1
theorem VRs.from {K : PySem.W.Frag} {Hs Ht H : Hp} (k : ∀ b, Ht b = none → Hs b = none) : ∀ {vs : List V} {us : List Vl}, VRs K Γ H0 Ht H vs us → VRs K Γ H0 Hs H vs us
  | _, _, .nil => .nil
  | _, _, .cons h d r => .cons (h.from k) d (VRs.from k r)
theorem VRs.get {K : PySem.W.Frag} {Hs H : Hp} : ∀ {vs : List V} {us : List Vl} {j : Nat} {w : Vl}, VRs K Γ H0 Hs H vs us → us[j]? = some w → ∃ v, vs[j]? = some v ∧ VR K Γ H0 Hs H v w
  | _, _, _, _, .nil, e => by simp at e
  | _, _, 0, _, .cons h _ _, e => by simp at e; subst e; exact ⟨_, rfl, h⟩
  | _, _, j + 1, w, .cons _ _ r, e => by
    obtain ⟨v, h1, h2⟩ := VRs.get (j := j) (w := w) r (by simpa using e)
    exact ⟨v, by simpa using h1, h2⟩
theorem VRs.length {K : PySem.W.Frag} {Hs H : Hp} : ∀ {vs : List V} {us : List Vl}, VRs K Γ H0 Hs H vs us → vs.length = us.length
  | _, _, .nil => rfl
  | _, _, .cons _ _ r => by simp [VRs.length r]
theorem s_pnil : PA X [] (tP X.K Γ H0 c .nil) := pa_weak pa_nil fun σ H Q hq => by
  obtain ⟨ρ, g, ds, g', p, he, q⟩ := hq
  cases he
  exact q [] H (Sm.refl _ _) p.gen .nil
theorem keep_same {v w : Vl} (h : v.keep = some w) : w = v := by
  cases v <;> first | (cases h; done) | (cases h; rfl)
theorem VR.at_ {K : PySem.W.Frag} {Hs H : Hp} {v : V} {u : Vl} (h : VR K Γ H0 Hs H v u) (o : u.own = true) : ∃ a x, v = .ref a ∧ H a = some x ∧ Hs a = none := by
  cases u with
  | ow xs => obtain ⟨a, vs, e, h1, _, _, h4⟩ := h; exact ⟨a, _, e, h1, h4⟩
  | od xs => obtain ⟨a, vs, e, h1, _, _, h4⟩ := h; exact ⟨a, _, e, h1, h4⟩
  | _ => cases o
theorem s_pcons {a b : E} {x : Expr} {xs : List Expr} (ha : PE X x (tE X.K Γ H0 c a)) (hb : PA X xs (tP X.K Γ H0 c b)) (hs : starEach (x :: xs) X.env = (false, eval x X.env) :: starEach xs X.env) : PA X (x :: xs) (tP X.K Γ H0 c (.cons a b)) :=
  pa_weak (pa_cons ha hb hs) fun σ H Q hq => by
    obtain ⟨ρ, g, us, g', p, he, q⟩ := hq
    simp only [evP, Option.bind_eq_bind, Option.bind_eq_some_iff] at he
    obtain ⟨⟨va, g1⟩, ea, d, hd, ⟨ws, g2⟩, eb, he⟩ := he
    cases he
    cases keep_same hd
    refine ⟨ρ, g, va, g1, p, ea, fun v H1 p1 => ⟨ρ, g1, ws, _, p.step p1.sm p1.gen, eb, fun vs H2 sm2 go2 r2 => ?_⟩⟩
    refine q _ H2 (p1.sm.trans sm2) go2 (.cons (p1.val.sm sm2 p1.gen) (fun j w hj o1 o2 e => ?_) (r2.from (Sm.none (g := g) p1.sm p1.gen)))
    obtain ⟨z, hz, rz⟩ := r2.get hj
    rw [hz] at e
    cases e
    obtain ⟨a1, y1, e1, k1, _⟩ := p1.val.at_ o1
    obtain ⟨a2, y2, e2, _, k2⟩ := rz.at_ o2
    rw [e1] at e2
    cases e2
    rw [k2] at k1
    cases k1
theorem s_ie {t a b : E} {z x y : Expr} (ht : PT X z (tT X.K Γ H0 c t)) (ha : PE X x (tE X.K Γ H0 c a)) (hb : PE X y (tE X.K Γ H0 c b)) : PE X (.IfExp z x y pos) (tE X.K Γ H0 c (.ie t a b)) :=
  pe_weak (pe_ifExp ht ha hb) fun σ H Q hq => by
    obtain ⟨ρ, g, r, g', p, he, q⟩ := hq
    simp only [ev, Option.bind_eq_bind, Option.bind_eq_some_iff] at he
    obtain ⟨⟨vt, g1⟩, et, tb, htb, he⟩ := he
    refine ⟨ρ, g, tb, g1, p, by simp only [evT, et, Option.bind_eq_bind, Option.bind_some, htb], fun H1 sm1 go1 => ?_⟩
    cases tb with
    | true =>
      simp only [if_true] at he ⊢
      exact ⟨ρ, g1, r, g', p.step sm1 go1, he, fun u H2 p2 => q _ _ (p2.then sm1 go1)⟩
    | false =>
      simp only [Bool.false_eq_true, if_false] at he ⊢
      exact ⟨ρ, g1, r, g', p.step sm1 go1, he, fun u H2 p2 => q _ _ (p2.then sm1 go1)⟩
end
end Pu
set_option Elab.async false
set_option maxRecDepth 100000
set_option maxHeartbeats 4000000
set_option linter.all false
/-! P6: items, slices, calls, tables. -/
namespace Pu
open PySem PySem.Spec PyProof.Rows L2

def noStar : Expr → Bool
  | .Starred .. => false
  | _ => true
theorem star_eq (env : PySem.Env) : ∀ {xs : List Expr}, xs.all noStar = true → starEach xs env = xs.map fun e => (false, eval e env)
  | [], _ => rfl
  | x :: xs, h => by
    rw [List.all_cons, Bool.and_eq_true] at h
    have ih := star_eq env h.2
    cases x <;> first | (cases h.1; done) | (show (false, _) :: starEach xs env = _; rw [ih]; rfl)
theorem star_cons {env : PySem.Env} {x : Expr} {xs : List Expr} (h : noStar x = true) : starEach (x :: xs) env = (false, eval x env) :: starEach xs env := by
  cases x <;> first | (cases h; done) | rfl
theorem star_back {env : PySem.Env} {pos : Pos} {xs : List Expr} (h : xs.all noStar = true) : backTo pos (starEach xs env) = xs.map fun e => (false, eval e env) := by
  rw [star_eq env h]
  unfold backTo
  rw [List.map_map]
  rfl
theorem star_any {env : PySem.Env} {pos : Pos} {xs : List Expr} (h : xs.all noStar = true) : (backTo pos (starEach xs env)).any (·.1) = false := by
  rw [star_back h, List.any_map]
  exact List.any_eq_false.mpr fun _ _ => by simp
def noCall0 : Expr → Bool
  | .Call (.Name _ _) [] [] _ => false
  | _ => true
theorem attr_plain {o : Expr} {m : Str} {env : PySem.Env} (h : noCall0 o = true) : attributeBase o m env (eval o env) = eval o env := by
  unfold attributeBase
  split
  · cases h
  · rfl
def noSlice : Expr → Bool
  | .Slice .. => false
  | _ => true
theorem plain_ix {b : Expr} (h : noSlice b = true) : ∀ o i, subscripted b false o i = operate [o, i] (getItem o i) := by
  intro o i
  cases b <;> first | (cases h; done) | rfl

section
variable {X : Cx} {Γ : Gh} {H0 : Hp} {c : Cf} {pos : Pos}

theorem ix_dict (hu : X.A.units + 1 < cLine) : IxR X (fun x y H Q => ∃ a v, x = .ref a ∧ DGet H a y (some v) ∧ Q v H) := by
  intro value slice pins s σ H x y v u Q I rx ry h hs
  obtain ⟨a, w, rfl, g, q⟩ := h
  cases rx
  exact tail_any (dict_typeIs I g) PySem.F.slot_dict_getitem.lookup (d_getItem hu I g ry fun w' s' I' r' => ⟨w, H, I', r', q⟩) hs
theorem key_of {K : PySem.W.Frag} {H : Hp} {v : V} {d : D} {k : Key} (h : Rdg K H v d) (e : keyD d = some k) : v = kV k := by
  cases d <;> simp only [keyD] at e <;> try (cases e; done)
  · obtain rfl := h.int
    cases e
    rfl
  · obtain rfl := h.str
    cases e
    rfl
theorem key_dec {v : V} {k : Key} (h : v = kV k) : True := trivial
theorem s_ix (hu : X.A.units + 200 < cLine) {a b : E} {x y : Expr} (ha : PE X x (tE X.K Γ H0 c a)) (hb : PE X y (tE X.K Γ H0 c b)) (hs : noSlice y = true) : PE X (.Subscript x y pos) (tE X.K Γ H0 c (.ix a b)) :=
  pe_weak (pe_ix (ix_D.or (ix_dict (by omega))) ha hb (plain_ix hs)) fun σ H Q hq => by
    obtain ⟨ρ, g, r, g', p, he, q⟩ := hq
    simp only [ev, Option.bind_eq_bind, Option.bind_eq_some_iff] at he
    obtain ⟨⟨va, g1⟩, ea, ⟨vb, g2⟩, eb, i, hi, d, hd, he⟩ := he
    cases he
    refine ⟨ρ, g, va, g1, p, ea, fun v H1 p1 => ⟨ρ, g1, vb, _, p.step p1.sm p1.gen, eb, fun u H2 p2 => ?_⟩⟩
    have hu2 := p2.val.rdg hi
    have hv2 := p1.val.sm p2.sm p1.gen
    have go := p1.sm.trans p2.sm
    have dict : ∀ kvs, (∃ a kv, v = .ref a ∧ H2 a = some (.dK kv) ∧ RepKV X.K H2 kv kvs) → (keyD i).bind (lookD kvs) = some d → ∃ a w, v = .ref a ∧ DGet H2 a u (some w) ∧ Q w H2 := by
      rintro kvs ⟨a, kv, rfl, h1, h2⟩ hl
      obtain ⟨k, hk, hl⟩ := Option.bind_eq_some_iff.mp hl
      obtain rfl := key_of hu2 hk
      rcases h2.look k with ⟨w, d', k1, k2, k3⟩ | ⟨k1, k2⟩
      · rw [hl] at k2
        cases k2
        refine ⟨a, w, rfl, ?_, q w H2 ⟨go, p2.gen, k3⟩⟩
        have := DGet.k (k := k) h1
        rw [k1] at this
        exact this
      · rw [hl] at k2
        cases k2
    have sq : ∀ d0, Rdg X.K H2 v d0 → ixD d0 i = some d → ∃ dx dy r, Rdg X.K H2 v dx ∧ Rdg X.K H2 u dy ∧ ixD dx dy = some r ∧ ∀ w, Rep X.K H2 w r → Q w H2 := fun d0 h1 h2 => ⟨d0, i, d, h1, hu2, h2, fun w hw => q w H2 ⟨go, p2.gen, hw⟩⟩
    cases va with
    | sh d0 => exact .inl (sq d0 (hv2.rdg rfl) hd)
    | ow xs => exact .inl (sq _ (hv2.rdg rfl) hd)
    | bw xs => exact .inl (sq _ (hv2.rdg rfl) hd)
    | od kvs =>
      obtain ⟨a, kv, e, h1, h2, _⟩ := hv2
      exact .inr (dict kvs ⟨a, kv, e, h1, h2⟩ hd)
    | bd kvs =>
      obtain ⟨a, kv, e, h1, h2, _⟩ := hv2
      exact .inr (dict kvs ⟨a, kv, e, h1, h2⟩ hd)
    | gen => cases hd

/-! ### slices -/
def evO (c : Cf) (e : E) (ρ : Env) (g : G) : Option (Option Int × G) := partO e.isNil (fun ρ g => ev c e ρ g) ρ g
def tO (K : PySem.W.Frag) (Γ : Gh) (H0 : Hp) (c : Cf) (e : E) : TO := fun σ H Q => ∃ ρ g o g', Pre K Γ H0 σ H ρ g ∧ evO c e ρ g = some (o, g') ∧ ∀ H', Sm Γ H H' → GenOk Γ H' g' → Q o H'
theorem po_weak {x : Option Expr} {t t' : TO} (h : PO X x t) (k : ∀ σ H Q, t' σ H Q → t σ H Q) : PO X x t' := ⟨fun pins s σ H Q I q => h.run pins s σ H Q I (k σ H Q q)⟩
theorem s_on : PO X none (tO X.K Γ H0 c .nil) := po_weak po_none fun σ H Q hq => by
  obtain ⟨ρ, g, o, g', p, he, q⟩ := hq
  cases he
  exact q H (Sm.refl _ _) p.gen
theorem s_os {e : E} {x : Expr} (he : e.isNil = false) (h : PE X x (tE X.K Γ H0 c e)) : PO X (some x) (tO X.K Γ H0 c e) := po_weak (po_some h) fun σ H Q hq => by
  obtain ⟨ρ, g, o, g', p, hev, q⟩ := hq
  unfold evO partO at hev
  rw [he] at hev
  simp only [Bool.false_eq_true, if_false, Option.bind_eq_bind, Option.bind_eq_some_iff] at hev
  obtain ⟨⟨v, g1⟩, e1, i, hi, e2⟩ := hev
  cases e2
  refine ⟨ρ, g, v, g1, p, e1, fun u H1 p1 => ?_⟩
  obtain ⟨rfl⟩ : v = .sh (.int i) := by
    cases v with
    | sh d => cases d <;> first | (cases hi; done) | (cases hi; rfl)
    | _ => cases hi
  exact ⟨_, Rdg.int (.inl p1.val), q H1 p1.sm p1.gen⟩
theorem s_sl {a lo hi : E} {x : Expr} {l h : Option Expr} {p2 : Pos} (ha : PE X x (tE X.K Γ H0 c a)) (hl : PO X l (tO X.K Γ H0 c lo)) (hh : PO X h (tO X.K Γ H0 c hi)) : PE X (.Subscript x (.Slice l h none p2) pos) (tE X.K Γ H0 c (.sl a lo hi)) :=
  pe_weak (pe_slice sl_D ha hl hh) fun σ H Q hq => by
    obtain ⟨ρ, g, r, g', p, he, q⟩ := hq
    simp only [ev, Option.bind_eq_bind, Option.bind_eq_some_iff] at he
    obtain ⟨⟨va, g1⟩, ea, d, hd, ⟨ol, g2⟩, el, ⟨oh, g3⟩, eh, r, hr, he⟩ := he
    cases he
    refine ⟨ρ, g, va, g1, p, ea, fun v H1 p1 => ⟨ρ, g1, ol, g2, p.step p1.sm p1.gen, el, fun H2 sm2 go2 => ⟨ρ, g2, oh, _, (p.step p1.sm p1.gen).step sm2 go2, eh, fun H3 sm3 go3 => ⟨d, r, p1.val.rdg_sm hd (sm2.trans sm3) p1.gen, hr, fun w H4 s4 n4 => ?_⟩⟩⟩⟩
    have s13 := p1.sm.trans (sm2.trans sm3)
    exact q _ _ ⟨s13.trans (same_sm s4 Γ), go3.same s4, n4.vr (p.old.trans s13) s13 go3⟩

/-! ### built-ins -/
theorem s_callB {id : String} {f : Bf} {es : E} {x : Str} {e : Expr} {xs : List Expr} {p0 : Pos} (hc : CallR X (.builtin id) (rA X.K (bfD f))) (hg : Gl X x) (hm : X.mg x = none) (hv : bootBuiltins x = some (.builtin id)) (ha : PA X (e :: xs) (tR X.K Γ H0 c es)) (hst : (e :: xs).all noStar = true)
    (hn : x ≠ "__name__") (hdb : (x == ("__debug__" : Str)) = false) : PE X (.Call (.Name x p0) (e :: xs) [] pos) (tE X.K Γ H0 c (.bf f es)) :=
  pe_weak (pe_callB hc hg hm hv ha hn hdb (star_cons (by rw [List.all_cons, Bool.and_eq_true] at hst; exact hst.1)) (star_any (by rw [List.all_cons, Bool.and_eq_true] at hst; exact hst.2))) fun σ H Q hq => by
    obtain ⟨ρ, g, r, g', p, he, q⟩ := hq
    simp only [ev, Option.bind_eq_bind, Option.bind_eq_some_iff] at he
    obtain ⟨⟨ds, g1⟩, ea, r, hr, he⟩ := he
    cases he
    exact ⟨ρ, g, ds, _, p, ea, fun vs H1 sm1 go1 r1 => ⟨ds, r, r1, hr, fun w H2 s2 n2 => q _ _ ⟨sm1.trans (same_sm s2 Γ), go1.same s2, n2.vr (p.old.trans sm1) sm1 go1⟩⟩⟩
theorem s_callTy {T : String} {f : Bf} {es : E} {x : Str} {e : Expr} {xs : List Expr} {p0 : Pos} (hc : CallR X (.type T) (rA X.K (bfD f))) (hg : Gl X x) (hm : X.mg x = none) (hv : bootBuiltins x = some (.type T)) (ha : PA X (e :: xs) (tR X.K Γ H0 c es)) (hst : (e :: xs).all noStar = true)
    (hn : x ≠ "__name__") (hdb : (x == ("__debug__" : Str)) = false) : PE X (.Call (.Name x p0) (e :: xs) [] pos) (tE X.K Γ H0 c (.bf f es)) :=
  pe_weak (pe_callTy hc hg hm hv ha hn hdb (star_cons (by rw [List.all_cons, Bool.and_eq_true] at hst; exact hst.1)) (star_any (by rw [List.all_cons, Bool.and_eq_true] at hst; exact hst.2))) fun σ H Q hq => by
    obtain ⟨ρ, g, r, g', p, he, q⟩ := hq
    simp only [ev, Option.bind_eq_bind, Option.bind_eq_some_iff] at he
    obtain ⟨⟨ds, g1⟩, ea, r, hr, he⟩ := he
    cases he
    exact ⟨ρ, g, ds, _, p, ea, fun vs H1 sm1 go1 r1 => ⟨ds, r, r1, hr, fun w H2 s2 n2 => q _ _ ⟨sm1.trans (same_sm s2 Γ), go1.same s2, n2.vr (p.old.trans sm1) sm1 go1⟩⟩⟩
theorem s_isi {a : E} {t : Ty} {x : Expr} {p0 p1 : Pos} (hg : Gl X "isinstance") (hm : X.mg "isinstance" = none) (hg2 : Gl X (Str.ofString t.py)) (hm2 : X.mg (Str.ofString t.py) = none) (hv2 : bootBuiltins (Str.ofString t.py) = some (.type t.py)) (ha : PE X x (tE X.K Γ H0 c a)) (hx : noStar x = true)
    (hn2 : Str.ofString t.py ≠ "__name__") (hdb2 : (Str.ofString t.py == ("__debug__" : Str)) = false) : PE X (.Call (.Name "isinstance" p0) [x, .Name (Str.ofString t.py) p1] [] pos) (tE X.K Γ H0 c (.isi a t)) :=
  pe_weak (pe_callB (cb_isi t) hg hm PyProof.Rows.boot_isinstance (pa_cons ha (pa_cons (pe_bltn (v := .ty t.py) hg2 hm2 hv2 rfl hn2 hdb2) pa_nil) (star_cons hx)) (by decide) (by decide) (star_cons hx) (star_any rfl)) fun σ H Q hq => by
    obtain ⟨ρ, g, r, g', p, he, q⟩ := hq
    simp only [ev, Option.bind_eq_bind, Option.bind_eq_some_iff] at he
    obtain ⟨⟨va, g1⟩, ea, d, hd, he⟩ := he
    cases he
    exact ⟨ρ, g, va, _, p, ea, fun v H1 po => ⟨v, d, rfl, po.val.rdg hd, q _ _ ⟨po.sm, po.gen, .bl _⟩⟩⟩

/-! ### list * int -/
theorem RepAll.rep {K : PySem.W.Frag} {H : Hp} {vs : List V} {ds : List D} (r : RepAll K H vs ds) : ∀ n, RepAll K H (List.replicate n vs).flatten (rep n ds)
  | 0 => .nil
  | n + 1 => by
    unfold Pu.rep
    rw [List.replicate_succ, List.replicate_succ, List.flatten_cons, List.flatten_cons]
    exact r.append (RepAll.rep r n)
theorem s_rp {es a : E} {xs : List Expr} {y : Expr} {p1 : Pos} (h : PE X (.List xs p1) (tE X.K Γ H0 c (.li es))) (ha : PE X y (tE X.K Γ H0 c a)) : PE X (.BinOp (.List xs p1) .Mult y pos) (tE X.K Γ H0 c (.rp es a)) :=
  pe_weak (pe_op op_rep h ha) fun σ H Q hq => by
    obtain ⟨ρ, g, r, g', p, he, q⟩ := hq
    simp only [ev, Option.bind_eq_bind, Option.bind_eq_some_iff] at he
    obtain ⟨⟨vs, g1⟩, ea, he⟩ := he
    split at he
    · rename_i ds hds
      dsimp only at hds
      subst hds
      simp only [Option.bind_eq_some_iff] at he
      obtain ⟨⟨va, g2⟩, e2, he⟩ := he
      split at he
      · rename_i k hk
        dsimp only at hk
        subst hk
        split at he
        · rename_i hz
          cases he
          refine ⟨ρ, g, .ow ds, g1, p, by simp only [ev, ea, Option.bind_eq_bind, Option.bind_some], fun v H1 p1 => ⟨ρ, g1, _, _, p.step p1.sm p1.gen, e2, fun u H2 p2 => ?_⟩⟩
          obtain ⟨l, ws, rfl, h1, h2, _⟩ := p1.val.sm p2.sm p1.gen
          have hu := Rdg.int (.inl p2.val)
          refine ⟨l, _, ws, rfl, hu, h1, hz.1, hz.2.1, by rw [h2.length]; exact hz.2.2, fun b hb => ?_⟩
          have sm : Same H2 (upd H2 b (.lst (List.replicate k.toNat ws).flatten)) := same_upd hb
          have s12 := p1.sm.trans p2.sm
          exact q _ _ ⟨s12.trans (same_sm sm Γ), p2.gen.same sm, NR.vr (p.old.trans s12) s12 p2.gen (r := .ow _) ⟨_, _, rfl, upd_same, (h2.rep _).mono (same_ext sm), hb⟩⟩
        · cases he
      · cases he
    · cases he
end
end Pu
set_option Elab.async false
set_option maxRecDepth 100000
set_option maxHeartbeats 4000000
set_option linter.all false
/-! P7: calls of defs, tables, constants. -/
namespace Pu
open PySem PySem.Spec PyProof.Rows L2

theorem ev_row {c : Cf} : ∀ {es : E} {ρ : Env} {g g' : G} {r : Vl}, es.row = true → ev c es ρ g = some (r, g') → ∃ ds, r = .sh (.tuple ds) ∧ ds.length = es.len
  | .nil, ρ, g, g', r, _, h => by cases h; exact ⟨[], rfl, rfl⟩
  | .cons a b, ρ, g, g', r, hr, h => by
    simp only [ev, Option.bind_eq_bind, Option.bind_eq_some_iff] at h
    obtain ⟨⟨va, g1⟩, ea, d, hd, ⟨vb, g2⟩, eb, he⟩ := h
    obtain ⟨ds, e, hl⟩ := ev_row (es := b) hr eb
    subst e
    cases he
    exact ⟨_, rfl, by rw [List.length_cons, hl]; rfl⟩

/-- the arguments of a def: the draws, then data -/
def ArgsR (K : PySem.W.Frag) (Γ : Gh) (H : Hp) : Bool → List V → List D → Prop
  | false, vs, ds => RepAll K H vs ds
  | true, vs, ds => ∃ ws, vs = .ref Γ.ga :: ws ∧ RepAll K H ws ds
/-- what a def promises -/
def spF (K : PySem.W.Frag) (c : Cf) (f : Str) (gen : Bool) (n : Nat) : Sp := fun vs H Q _ => vs.length = n ∧ ∃ Γ g ds r g', ArgsR K Γ H gen vs ds ∧ GenOk Γ H g ∧ c.call f gen ds g = some (r, g') ∧ ∀ v H', Sm Γ H H' → GenOk Γ H' g' → NR K H H' v r → Q v H'
structure FnH (X : Cx) (c : Cf) (k : Nat) (f : Str) (gen : Bool) (n : Nat) : Prop where
  ex : ∃ fa fd ps, X.mg f = some (.ref fa) ∧ PySem.W.keepIn X.K (.ref fa) = true ∧ Binds X.K fd ps [] ∧ FnOk X.prog X.w X.K X.mg X.base C8.CX0 k fa fd ps (spF X.K c f gen n)

section
variable {X : Cx} {Γ : Gh} {H0 : Hp} {c : Cf} {pos : Pos}

theorem s_ca {k : Nat} {f : Str} {es : E} {x : Expr} {xs : List Expr} {p0 : Pos} (F : FnH X c k f false es.len) (hr : Room k X.A) (hg : Gl X f) (hw : es.row = true) (ha : PA X (x :: xs) (tA X.K Γ H0 c es)) (hst : (x :: xs).all noStar = true)
    (hdb : (f == ("__debug__" : Str)) = false) : PE X (.Call (.Name f p0) (x :: xs) [] pos) (tE X.K Γ H0 c (.ca f none es)) := by
  obtain ⟨fa, fd, ps, h1, h2, h3, h4⟩ := F.ex
  refine pe_weak (pe_call (dvs := []) (E := C8.E0) h4 hr hg h1 h2 h3 .nil C8.pass0 ha hdb (star_cons (by rw [List.all_cons, Bool.and_eq_true] at hst; exact hst.1)) (star_any (by rw [List.all_cons, Bool.and_eq_true] at hst; exact hst.2))) fun σ H Q hq => ?_
  obtain ⟨ρ, g, r, g', p, he, q⟩ := hq
  simp only [ev, Option.bind_eq_bind, Option.bind_eq_some_iff] at he
  obtain ⟨⟨vs, g1⟩, ea, he⟩ := he
  obtain ⟨ds, e, hl⟩ := ev_row hw ea
  subst e
  refine ⟨ρ, g, ds, g1, p, ea, fun us H1 sm1 go1 r1 => ⟨by rw [List.append_nil, r1.length, hl], Γ, g1, ds, r, g', by rw [List.append_nil]; exact r1, go1, he, fun v H2 sm2 go2 n2 => ?_⟩⟩
  exact q _ _ ⟨sm1.trans sm2, go2, n2.vr (p.old.trans sm1) sm1 go1⟩
theorem s_caG {k i : Nat} {f : Str} {es : E} {x : Str} {xs : List Expr} {p0 p1 : Pos} (F : FnH X c k f true (es.len + 1)) (hr : Room k X.A) (hg : Gl X f) (hw : es.row = true) (hx : PE X (.Name x p1) (tVar i)) (ha : PA X xs (tA X.K Γ H0 c es)) (hst : xs.all noStar = true)
    (hdb : (f == ("__debug__" : Str)) = false) : PE X (.Call (.Name f p0) (.Name x p1 :: xs) [] pos) (tE X.K Γ H0 c (.ca f (some i) es)) := by
  obtain ⟨fa, fd, ps, h1, h2, h3, h4⟩ := F.ex
  refine pe_weak (pe_call (dvs := []) (E := C8.E0) h4 hr hg h1 h2 h3 .nil C8.pass0 (pa_cons hx ha rfl) hdb rfl (star_any hst)) fun σ H Q hq => ?_
  obtain ⟨ρ, g, r, g', p, he, q⟩ := hq
  simp only [ev, Option.bind_eq_bind, Option.bind_eq_some_iff] at he
  obtain ⟨⟨vs, g1⟩, ea, he⟩ := he
  obtain ⟨ds, e, hl⟩ := ev_row hw ea
  subst e
  dsimp only at he
  split at he
  · rename_i hgn
    obtain ⟨v, e1, e2⟩ := p.env.get i _ hgn
    cases (show v = .ref Γ.ga from e2)
    refine ⟨_, e1, ρ, g, ds, g1, p, ea, fun us H1 sm1 go1 r1 => ⟨by rw [List.append_nil, List.length_cons, r1.length, hl], Γ, g1, ds, r, g', ⟨us, by rw [List.append_nil], r1⟩, go1, he, fun v H2 sm2 go2 n2 => ?_⟩⟩
    exact q _ _ ⟨sm1.trans sm2, go2, n2.vr (p.old.trans sm1) sm1 go1⟩
  · cases he

/-! ### constants -/
theorem s_gl {x : Str} {u : Value} {v : V} {d : D} (hg : Gl X x) (hm : X.mg x = some u) (rv : RelV v u) (hd : ∀ H, Rep X.K H v d) (hc : c.cst x = some (.sh d)) (hdb : (x == ("__debug__" : Str)) = false) : PE X (.Name x pos) (tE X.K Γ H0 c (.gl x)) :=
  s_cst (pe_glob hg hm rv hdb) (fun ρ g => by simp only [ev, hc, Option.map_some]) hd

/-! ### tables -/
theorem Rdg.rep {K : PySem.W.Frag} {H : Hp} {v : V} {d : D} (h : Rdg K H v d) (n : noList d = true) : Rep K H v d := by
  rcases h with h | ⟨a, vs, ds, rfl, rfl, _, _⟩
  · exact h
  · cases n
def Vl.kvs : Vl → Option (List (Key × D))
  | .od m => some m
  | .bd m => some m
  | _ => none
theorem VR.dict {K : PySem.W.Frag} {Hs H : Hp} {v : V} : ∀ {r : Vl} {m : List (Key × D)}, VR K Γ H0 Hs H v r → r.kvs = some m → ∃ a kv, v = .ref a ∧ H a = some (.dK kv) ∧ RepKV K H kv m
  | .od _, _, ⟨a, kv, e, h1, h2, _⟩, e' => by cases e'; exact ⟨a, kv, e, h1, h2⟩
  | .bd _, _, ⟨a, kv, e, h1, h2, _⟩, e' => by cases e'; exact ⟨a, kv, e, h1, h2⟩
  | .sh _, _, _, e' => by cases e'
  | .ow _, _, _, e' => by cases e'
  | .bw _, _, _, e' => by cases e'
  | .gen, _, _, e' => by cases e'
theorem meD_get1 {v : Vl} {k : D} {r : Vl} (h : meD .get v [k] = some r) : ∃ m kk, v.kvs = some m ∧ keyD k = some kk ∧ r = .sh ((lookD m kk).getD .none) := by
  cases v <;> simp only [meD, Option.map_eq_some_iff] at h <;> first | (cases h; done) | (obtain ⟨kk, h1, h2⟩ := h; exact ⟨_, kk, rfl, h1, h2.symm⟩)
theorem meD_get2 {v : Vl} {k d : D} {r : Vl} (h : meD .get v [k, d] = some r) : ∃ m kk, v.kvs = some m ∧ keyD k = some kk ∧ noList d = true ∧ r = .sh ((lookD m kk).getD d) := by
  cases v <;> simp only [meD] at h <;> first
    | (cases h; done)
    | (split at h
       · rename_i hn
         simp only [Option.map_eq_some_iff] at h
         obtain ⟨kk, h1, h2⟩ := h
         exact ⟨_, kk, rfl, h1, hn, h2.symm⟩
       · cases h)
theorem m1_of {o e : Expr} {m : Str} {apos cpos : Pos} (h1 : noCall0 o = true) (h2 : noStar e = true) (h3 : (apos.endLine == cpos.line) = true) : M1 X o m apos e cpos := by
  have hs : [e].all noStar = true := by rw [List.all_cons, h2]; rfl
  refine ⟨attr_plain h1, ?_, h3, by rw [star_back hs]; rfl⟩
  rw [star_back hs]
  rfl
theorem m2_of {o e f : Expr} {m : Str} {apos cpos : Pos} (h1 : noCall0 o = true) (h2 : noStar e = true) (h4 : noStar f = true) (h3 : (apos.endLine == cpos.line) = true) : M2 X o m apos e f cpos := by
  have hs : [e, f].all noStar = true := by rw [List.all_cons, List.all_cons, h2, h4]; rfl
  refine ⟨attr_plain h1, ?_, h3, by rw [star_back hs]; rfl⟩
  rw [star_back hs]
  rfl
theorem s_get1 (hu : X.A.units + 1 < cLine) {o a : E} {x y : Expr} {apos : Pos} (ho : PE X x (tE X.K Γ H0 c o)) (ha : PE X y (tE X.K Γ H0 c a)) (h1 : noCall0 x = true) (h2 : noStar y = true) (h3 : (apos.endLine == pos.line) = true) :
    PE X (.Call (.Attribute x "get" apos) [y] [] pos) (tE X.K Γ H0 c (.me .get o (.cons a .nil))) :=
  pe_weak (pe_dget1 hu ho ha (m1_of h1 h2 h3)) fun σ H Q hq => by
    obtain ⟨ρ, g, r, g', p, he, q⟩ := hq
    simp only [ev, ev.evR, Option.bind_eq_bind, Option.bind_eq_some_iff] at he
    obtain ⟨⟨vo, g1⟩, eo, ⟨ds, g2⟩, ⟨⟨va, g3⟩, ea, d, hd, ⟨es, g4⟩, e4, e5⟩, r1, hr, he⟩ := he
    cases e4
    cases e5
    cases he
    obtain ⟨m, kk, hm, hk, rfl⟩ := meD_get1 hr
    refine ⟨ρ, g, vo, g1, p, eo, fun v H1 p1 => ?_⟩
    obtain ⟨b, kv, rfl, hb, rk⟩ := p1.val.dict hm
    refine ⟨b, rfl, .inl ⟨kv, .inl hb⟩, ρ, g1, va, _, p.step p1.sm p1.gen, ea, fun u H2 p2 => ?_⟩
    obtain ⟨b', kv', e', hb', rk'⟩ := (p1.val.sm p2.sm p1.gen).dict hm
    cases e'
    obtain rfl := key_of (p2.val.rdg hd) hk
    refine ⟨_, DGet.k hb', q _ _ ⟨p1.sm.trans p2.sm, p2.gen, ?_⟩⟩
    rcases rk'.look kk with ⟨w, d', k1, k2, k3⟩ | ⟨k1, k2⟩
    · rw [k1, k2]; exact k3
    · rw [k1, k2]; exact .non
theorem s_get2 (hu : X.A.units + 1 < cLine) {o a b : E} {x y z : Expr} {apos : Pos} (ho : PE X x (tE X.K Γ H0 c o)) (ha : PE X y (tE X.K Γ H0 c a)) (hb : PE X z (tE X.K Γ H0 c b)) (h1 : noCall0 x = true) (h2 : noStar y = true) (h4 : noStar z = true) (h3 : (apos.endLine == pos.line) = true) :
    PE X (.Call (.Attribute x "get" apos) [y, z] [] pos) (tE X.K Γ H0 c (.me .get o (.cons a (.cons b .nil)))) :=
  pe_weak (pe_dget2 hu ho ha hb (m2_of h1 h2 h4 h3)) fun σ H Q hq => by
    obtain ⟨ρ, g, r, g', p, he, q⟩ := hq
    simp only [ev, ev.evR, Option.bind_eq_bind, Option.bind_eq_some_iff] at he
    obtain ⟨⟨vo, g1⟩, eo, ⟨ds, g2⟩, ⟨⟨va, g3⟩, ea, d, hd, ⟨es, g4⟩, ⟨⟨vb, g5⟩, eb, d2, hd2, ⟨es2, g6⟩, e6, e7⟩, e5⟩, r1, hr, he⟩ := he
    cases e6
    cases e7
    cases e5
    cases he
    obtain ⟨m, kk, hm, hk, hn, rfl⟩ := meD_get2 hr
    refine ⟨ρ, g, vo, g1, p, eo, fun v H1 p1 => ?_⟩
    obtain ⟨a', kv, rfl, hb, rk⟩ := p1.val.dict hm
    refine ⟨a', rfl, .inl ⟨kv, .inl hb⟩, ρ, g1, va, _, p.step p1.sm p1.gen, ea, fun u H2 p2 => ⟨ρ, g3, vb, _, (p.step p1.sm p1.gen).step p2.sm p2.gen, eb, fun w H3 p3 => ?_⟩⟩
    obtain ⟨b', kv', e', hb', rk'⟩ := ((p1.val.sm p2.sm p1.gen).sm p3.sm p2.gen).dict hm
    cases e'
    obtain rfl := key_of (p2.val.rdg hd) hk
    refine ⟨_, DGet.k hb', q _ _ ⟨(p1.sm.trans p2.sm).trans p3.sm, p3.gen, ?_⟩⟩
    rcases rk'.look kk with ⟨w', d', k1, k2, k3⟩ | ⟨k1, k2⟩
    · rw [k1, k2]; exact k3
    · rw [k1, k2]; exact (p3.val.rdg hd2).rep hn

theorem RepKV.anyK {K : PySem.W.Frag} {H : Hp} {k : Key} : ∀ {m : List (Key × D)} {kv : List (Key × V)}, RepKV K H kv m → (kv.any fun q => decide (q.1 = k)) = (m.any fun q => decide (q.1 = k))
  | _, _, .nil => rfl
  | _, _, .cons _ r => by rw [List.any_cons, List.any_cons, RepKV.anyK r]
theorem RepKV.mapK {K : PySem.W.Frag} {H : Hp} {k : Key} {v : V} {d : D} (h : Rep K H v d) : ∀ {m : List (Key × D)} {kv : List (Key × V)}, RepKV K H kv m →
    RepKV K H (kv.map fun q => if q.1 = k then (q.1, v) else q) (m.map fun q => if q.1 = k then (q.1, d) else q)
  | _, _, .nil => .nil
  | _, _, .cons (k := k') r rs => by
    rw [List.map_cons, List.map_cons]
    by_cases e : k' = k
    · rw [if_pos e, if_pos e]
      exact .cons h (RepKV.mapK h rs)
    · rw [if_neg e, if_neg e]
      exact .cons r (RepKV.mapK h rs)
theorem RepKV.append {K : PySem.W.Frag} {H : Hp} : ∀ {m n : List (Key × D)} {kv lw : List (Key × V)}, RepKV K H kv m → RepKV K H lw n → RepKV K H (kv ++ lw) (m ++ n)
  | _, _, _, _, .nil, s => s
  | _, _, _, _, .cons h r, s => .cons h (RepKV.append r s)
theorem RepKV.put {K : PySem.W.Frag} {H : Hp} {k : Key} {v : V} {d : D} {m : List (Key × D)} {kv : List (Key × V)} (r : RepKV K H kv m) (h : Rep K H v d) : RepKV K H (putK kv k v) (putD m k d) := by
  unfold putK putD
  rw [r.anyK]
  split
  · exact r.mapK h
  · exact r.append (.cons h .nil)
theorem RepKV.merge {K : PySem.W.Frag} {H : Hp} : ∀ {n m : List (Key × D)} {lw kv : List (Key × V)}, RepKV K H lw n → RepKV K H kv m → RepKV K H (mergeK kv lw) (mergeD m n)
  | _, _, _, _, .nil, s => s
  | _, m, _, kv, .cons (k := k) (v := v) (vs := vs) (d := d) (ds := ds) h r, s => by
    show RepKV K H (mergeK (putK kv k v) vs) (mergeD (putD m k d) ds)
    exact RepKV.merge r (s.put h)
def tPr (K : PySem.W.Frag) (Γ : Gh) (H0 : Hp) (c : Cf) : E → List (TE × TE)
  | .cons k (.cons v r) => (tD K Γ H0 c k, tD K Γ H0 c v) :: tPr K Γ H0 c r
  | _ => []
theorem pairs_ok {K : PySem.W.Frag} : ∀ (es : E) {σ : L2.St} {H : Hp} {ρ : Env} {g g' : G} {ds : List D} {m : List (Key × D)} {Q : List (V × V) → Hp → Prop}, es.row = true → Pre K Γ H0 σ H ρ g → ev c es ρ g = some (.sh (.tuple ds), g') → pairsD ds = some m →
    (∀ kvs H', Sm Γ H H' → GenOk Γ H' g' → RepKV K H' kvs m → kvs.length = m.length → Q (kvs.map fun kv => (kV kv.1, kv.2)) H') → tPairs (tPr K Γ H0 c es) σ H Q
  | .nil, σ, H, ρ, g, g', ds, m, Q, _, p, h, hp, q => by
    cases h
    cases hp
    exact q [] H (Sm.refl _ _) p.gen .nil rfl
  | .cons k .nil, σ, H, ρ, g, g', ds, m, Q, _, p, h, hp, q => by
    simp only [ev, Option.bind_eq_bind, Option.bind_eq_some_iff] at h
    obtain ⟨⟨va, g1⟩, ea, d, hd, ⟨vb, g2⟩, eb, he⟩ := h
    cases eb
    cases he
    cases hp
  | .cons k (.cons v r), σ, H, ρ, g, g', ds, m, Q, hw, p, h, hp, q => by
    simp only [ev, Option.bind_eq_bind, Option.bind_eq_some_iff] at h
    obtain ⟨⟨vk, g1⟩, ek, dk, hdk, ⟨vz, gz⟩, ⟨⟨vv, g2⟩, ev_, dv, hdv, ⟨vr, g3⟩, er, he1⟩, he2⟩ := h
    obtain ⟨es, e, hl⟩ := ev_row (es := r) hw er
    subst e
    cases he1
    cases he2
    simp only [pairsD, Option.bind_eq_bind, Option.bind_eq_some_iff] at hp
    obtain ⟨kk, hkk, m', hm', e⟩ := hp
    cases e
    refine ⟨ρ, g, vk, g1, dk, p, ek, hdk, fun u H1 sm1 go1 r1 => ⟨ρ, g1, vv, g2, dv, p.step sm1 go1, ev_, hdv, fun w H2 sm2 go2 r2 => ?_⟩⟩
    refine pairs_ok r (show r.row = true from hw) ((p.step sm1 go1).step sm2 go2) er hm' fun kvs H3 sm3 go3 r3 hl3 => ?_
    have e : u = kV kk := key_of (.inl r1) hkk
    subst e
    exact q ((kk, w) :: kvs) H3 ((sm1.trans sm2).trans sm3) go3 (.cons (r2.mono (sm3.ext go2)) r3) (by rw [List.length_cons, List.length_cons, hl3])
  | .cons k (.nm _), _, _, _, _, _, _, _, _, hw, _, _, _, _ => by cases hw
  | .cons k (.int _), _, _, _, _, _, _, _, _, hw, _, _, _, _ => by cases hw
  | .cons k (.str _), _, _, _, _, _, _, _, _, hw, _, _, _, _ => by cases hw
  | .cons k (.bl _), _, _, _, _, _, _, _, _, hw, _, _, _, _ => by cases hw
  | .cons k .non, _, _, _, _, _, _, _, _, hw, _, _, _, _ => by cases hw
  | .cons k (.gl _), _, _, _, _, _, _, _, _, hw, _, _, _, _ => by cases hw
  | .cons k (.tu _), _, _, _, _, _, _, _, _, hw, _, _, _, _ => by cases hw
  | .cons k (.li _), _, _, _, _, _, _, _, _, hw, _, _, _, _ => by cases hw
  | .cons k (.rp _ _), _, _, _, _, _, _, _, _, hw, _, _, _, _ => by cases hw
  | .cons k (.di _), _, _, _, _, _, _, _, _, hw, _, _, _, _ => by cases hw
  | .cons k (.bi _ _ _), _, _, _, _, _, _, _, _, hw, _, _, _, _ => by cases hw
  | .cons k (.neg _), _, _, _, _, _, _, _, _, hw, _, _, _, _ => by cases hw
  | .cons k (.cm _ _ _), _, _, _, _, _, _, _, _, hw, _, _, _, _ => by cases hw
  | .cons k (.ch _ _ _ _ _), _, _, _, _, _, _, _, _, hw, _, _, _, _ => by cases hw
  | .cons k (.an _ _), _, _, _, _, _, _, _, _, hw, _, _, _, _ => by cases hw
  | .cons k (.or _ _), _, _, _, _, _, _, _, _, hw, _, _, _, _ => by cases hw
  | .cons k (.no _), _, _, _, _, _, _, _, _, hw, _, _, _, _ => by cases hw
  | .cons k (.ie _ _ _), _, _, _, _, _, _, _, _, hw, _, _, _, _ => by cases hw
  | .cons k (.ix _ _), _, _, _, _, _, _, _, _, hw, _, _, _, _ => by cases hw
  | .cons k (.sl _ _ _), _, _, _, _, _, _, _, _, hw, _, _, _, _ => by cases hw
  | .cons k (.ca _ _ _), _, _, _, _, _, _, _, _, hw, _, _, _, _ => by cases hw
  | .cons k (.bf _ _), _, _, _, _, _, _, _, _, hw, _, _, _, _ => by cases hw
  | .cons k (.me _ _ _), _, _, _, _, _, _, _, _, hw, _, _, _, _ => by cases hw
  | .cons k (.isi _ _), _, _, _, _, _, _, _, _, hw, _, _, _, _ => by cases hw
  | .cons k (.r1 _), _, _, _, _, _, _, _, _, hw, _, _, _, _ => by cases hw
  | .cons k (.r2 _ _), _, _, _, _, _, _, _, _, hw, _, _, _, _ => by cases hw
  | .cons k (.l1 _), _, _, _, _, _, _, _, _, hw, _, _, _, _ => by cases hw
  | .cons k (.lr _ _), _, _, _, _, _, _, _, _, hw, _, _, _, _ => by cases hw
  | .cons k (.lc _ _ _ _), _, _, _, _, _, _, _, _, hw, _, _, _, _ => by cases hw
  | .cons k (.l2 _ _ _ _ _ _ _), _, _, _, _, _, _, _, _, hw, _, _, _, _ => by cases hw
theorem pairs_len : ∀ {ds : List D} {m : List (Key × D)}, pairsD ds = some m → 2 * m.length = ds.length
  | [], m, h => by cases h; rfl
  | [x], m, h => by cases h
  | k :: v :: r, m, h => by
    simp only [pairsD, Option.bind_eq_bind, Option.bind_eq_some_iff] at h
    obtain ⟨kk, hkk, m', hm', e⟩ := h
    cases e
    have := pairs_len hm'
    rw [List.length_cons, List.length_cons, List.length_cons]
    omega
theorem s_di {es : E} {ks : List (Option Expr)} {vs : List Expr} (h : PPs X pos ks vs (tPr X.K Γ H0 c es)) (hw : es.row = true) (hn : es.len ≤ 30) (hall : ks.all (·.isSome) = true) (hl : ks.length = vs.length) (h0 : ks ≠ []) (h15 : ks.length ≤ 15) : PE X (.Dict ks vs pos) (tE X.K Γ H0 c (.di es)) :=
  pe_weak (pe_disp h hall hl h0 h15) fun σ H Q hq => by
    obtain ⟨ρ, g, r, g', p, he, q⟩ := hq
    simp only [ev, Option.bind_eq_bind, Option.bind_eq_some_iff] at he
    obtain ⟨⟨v, g1⟩, ea, he⟩ := he
    obtain ⟨ds, e, hdl⟩ := ev_row hw ea
    subst e
    simp only [Option.map_eq_some_iff] at he
    obtain ⟨m, hm, he⟩ := he
    cases he
    intro a ha
    have sm0 : Same H (upd H a (.dK [])) := same_upd ha
    have go0 := p.gen.same sm0
    have oa : OwnAt Γ H0 a := new_at p.old p.gen ha (fun _ _ => True.intro)
    refine pairs_ok es hw (p.step (same_sm sm0 Γ) go0) ea hm fun kvs H2 sm2 go2 r2 l2 => ?_
    have hd : H2 a = some (.dK []) := sm2 a _ upd_same oa.nga oa.ngb
    refine ⟨hd, kvs, rfl, ?_, q _ _ ?_⟩
    · have := pairs_len hm
      rw [l2]; omega
    · have ne : ∀ {b u}, H2 b = some u → u ≠ .dK [] → b ≠ a := fun {b u} e n z => by rw [z, hd] at e; cases e; exact n rfl
      have sm3 : Sm Γ H (upd H2 a (.dK (mergeK [] kvs))) := fun b u e n1 n2 => by
        have nb : b ≠ a := fun z => by rw [z, ha] at e; cases e
        rw [upd_ne nb]
        exact sm2 b u (sm0 b u e) n1 n2
      have ex3 : Ext H2 (upd H2 a (.dK (mergeK [] kvs))) := ⟨fun b xs e => by rw [upd_ne (ne e (by intro z; cases z))]; exact e, fun b o u e => by rw [upd_ne (ne e (by intro z; cases z))]; exact e⟩
      refine ⟨sm3, ⟨by rw [upd_ne (Ne.symm oa.nga)]; exact go2.1, by rw [upd_ne (Ne.symm oa.ngb)]; exact go2.2.1, go2.2.2⟩, ⟨a, _, rfl, upd_same, ?_, oa, ha⟩⟩
      exact (r2.mono ex3).merge .nil
end
end Pu
set_option Elab.async false
set_option maxRecDepth 100000
set_option maxHeartbeats 4000000
set_option linter.all false
/-! P8: what is walked; comprehensions. -/
namespace Pu
open PySem PySem.Spec PyProof.Rows L2

/-- J walks xs, as long as the heap is kept -/
structure Wk (K : PySem.W.Frag) (Keep : Hp → Hp → Prop) (J : It) (H : Hp) (xs : List D) : Prop where
  ex : ∃ us, RepAll K H us xs ∧ xs.length ≤ sizeLine ∧ ∀ H2, Keep H H2 → ∀ i, (∀ d, xs[i]? = some d → J.go i H2 ∧ ∀ x H3, J.yld i H2 x H3 → H3 = H2 ∧ us[i]? = some x) ∧ (xs.length ≤ i → J.stop i H2)
def KeepS (Γ : Gh) (H H2 : Hp) : Prop := Sm Γ H H2 ∧ Ext H H2
theorem RepAll.some {K : PySem.W.Frag} {H : Hp} {us : List V} {xs : List D} (r : RepAll K H us xs) {i : Nat} {d : D} (e : xs[i]? = some d) : ∃ u, us[i]? = some u := by
  obtain ⟨u, h, _⟩ := r.get e
  exact ⟨u, h⟩
theorem wk_l {K : PySem.W.Frag} {Keep : Hp → Hp → Prop} {H : Hp} {a : Addr} {us : List V} {xs : List D} (hk : ∀ H2, Keep H H2 → SqL K H2 a us) (r : RepAll K H us xs) (hl : us.length ≤ sizeLine) : Wk K Keep (Itl K a) H xs :=
  ⟨us, r, by rw [← r.length]; exact hl, fun H2 k i => ⟨fun d e => by
    obtain ⟨u, hu⟩ := r.some e
    exact ⟨⟨us, u, hk H2 k, hu⟩, fun x H3 y => ⟨y.1, y.2 us (hk H2 k)⟩⟩, fun h => ⟨us, hk H2 k, by rw [r.length]; exact h⟩⟩⟩
theorem wk_t {K : PySem.W.Frag} {Keep : Hp → Hp → Prop} {H : Hp} {a : Addr} {us : List V} {xs : List D} (hk : ∀ H2, Keep H H2 → SqT K H2 a us) (r : RepAll K H us xs) (hl : us.length ≤ sizeLine) : Wk K Keep (Itt K a) H xs :=
  ⟨us, r, by rw [← r.length]; exact hl, fun H2 k i => ⟨fun d e => by
    obtain ⟨u, hu⟩ := r.some e
    exact ⟨⟨us, u, hk H2 k, hu⟩, fun x H3 y => ⟨y.1, y.2 us (hk H2 k)⟩⟩, fun h => ⟨us, hk H2 k, by rw [r.length]; exact h⟩⟩⟩
theorem rep_rng {K : PySem.W.Frag} {H : Hp} (lo : Int) : ∀ (l : List Nat), RepAll K H (l.map fun (k : Nat) => V.int (lo + k)) (l.map fun (k : Nat) => PyData.int (lo + k))
  | [] => .nil
  | _ :: r => .cons (.int _) (rep_rng lo r)
theorem wk_r {K : PySem.W.Frag} {Keep : Hp → Hp → Prop} {H : Hp} {lo : Int} {n : Nat} (hn : n ≤ sizeLine) : Wk K Keep (Itr lo n) H ((List.range n).map fun (k : Nat) => PyData.int (lo + k)) := by
  refine ⟨_, rep_rng lo _, by rw [List.length_map, List.length_range]; exact hn, fun H2 _ i => ⟨fun d e => ?_, fun h => ?_⟩⟩
  · have hi : i < n := by
      rcases List.getElem?_eq_some_iff.mp e with ⟨h, _⟩
      rw [List.length_map, List.length_range] at h
      exact h
    refine ⟨hi, fun x H3 y => ⟨y.1, ?_⟩⟩
    rw [y.2, List.getElem?_map, List.getElem?_range hi]
    rfl
  · rw [List.length_map, List.length_range] at h
    exact h

def iSeq (K : PySem.W.Frag) (tl : TE) : TI := fun σ H R => tl σ H fun x H1 => ∃ a, x = .ref a ∧
  ((∃ xs, SqL K H1 a xs ∧ (xs.length ≤ sizeLine → R (Itl K a) H1)) ∨ ∃ xs, SqT K H1 a xs ∧ (xs.length ≤ sizeLine → R (Itt K a) H1))
theorem pi_seq {X : Cx} {tg l : Expr} {tl : TE} (hl : PE X l tl) : PI X tg l (iSeq X.K tl) := by
  refine ⟨fun pins s σ H R I h => thn (hl.run pins s σ H _ I h) fun v s1 ⟨x, H1, I1, r1, q1⟩ => ?_⟩
  obtain ⟨a, e, q⟩ := q1
  subst e
  cases r1
  have fresh : ∀ b ∈ [s1.heap.objs.size], FpOk X pins H1 b := fun b hb => by
    rw [List.mem_singleton] at hb
    rw [hb]
    exact I1.fpOk (Nat.le_refl _) (I1.hok.fresh (Nat.le_refl _))
  rcases q with ⟨ys, hq, q⟩ | ⟨ys, hq, q⟩
  · obtain ⟨its, rv, pl, hz⟩ := I1.list hq
    exact wpAny_pyIter_list pl.isList ⟨_, _, _, _, H1, rfl, I1.kept (t' := s1.toks) fun _ _ z => Heap.get?_push_of_some _ z,
      turn_list a _, ⟨_, Heap.get?_push_size _ rfl, rfl, rfl⟩, fresh, q hz⟩
  · obtain ⟨its, rv, pl, hz⟩ := I1.tuple hq
    exact wpAny_pyIter_tuple (show s1.heap.IsTuple a its.toArray from pl) ⟨_, _, _, _, H1, rfl, I1.kept (t' := s1.toks) fun _ _ z => Heap.get?_push_of_some _ z,
      turn_tuple a _, ⟨_, Heap.get?_push_size _ rfl, rfl, rfl⟩, fresh, q hz⟩

def tIr (K : PySem.W.Frag) (Γ : Gh) (H0 : Hp) (c : Cf) (it : E) : TI := fun σ H R => ∃ ρ g vi g' xs, Pre K Γ H0 σ H ρ g ∧ ev c it ρ g = some (vi, g') ∧ vi.rd.bind itD = some xs ∧ ∀ J H', Sm Γ H H' → GenOk Γ H' g' → Wk K (KeepS Γ) J H' xs → R J H'
def tIf (K : PySem.W.Frag) (Γ : Gh) (H0 : Hp) (c : Cf) (it : E) : TI := fun σ H R => ∃ ρ g vi g' d xs, Pre K Γ H0 σ H ρ g ∧ ev c it ρ g = some (vi, g') ∧ vi.share = some d ∧ itD d = some xs ∧ ∀ J H', Sm Γ H H' → GenOk Γ H' g' → Wk K Ext J H' xs → R J H'
theorem pi_weak {X : Cx} {tg x : Expr} {t t' : TI} (h : PI X tg x t) (k : ∀ σ H R, t' σ H R → t σ H R) : PI X tg x t' := ⟨fun pins s σ H R I q => h.run pins s σ H R I (k σ H R q)⟩
theorem rep_it {K : PySem.W.Frag} {H : Hp} {v : V} {d : D} {xs : List D} (h : Rep K H v d) (e : itD d = some xs) : ∃ a us, v = .ref a ∧ RepAll K H us xs ∧ ((d = .list xs ∧ FzL H a us) ∨ (d = .tuple xs ∧ SqT K H a us)) := by
  cases h <;> simp only [itD] at e <;> try (cases e; done)
  · cases e
    rename_i a us h1 h2
    exact ⟨a, us, rfl, h2, .inr ⟨rfl, h1⟩⟩
  · cases e
    rename_i a us h1 h2
    exact ⟨a, us, rfl, h2, .inl ⟨rfl, h1⟩⟩
section
variable {X : Cx} {Γ : Gh} {H0 : Hp} {c : Cf} {pos : Pos} {tgE : Expr}
theorem s_itR {it : E} {x : Expr} (h : PE X x (tE X.K Γ H0 c it)) : PI X tgE x (tIr X.K Γ H0 c it) := pi_weak (pi_seq h) fun σ H R hq => by
  obtain ⟨ρ, g, vi, g', xs, p, he, hx, q⟩ := hq
  refine ⟨ρ, g, vi, g', p, he, fun v H1 p1 => ?_⟩
  have own : ∀ ys, (∃ a vs, v = .ref a ∧ H1 a = some (.lst vs) ∧ RepAll X.K H1 vs ys ∧ OwnAt Γ H0 a) → ys = xs → ∃ a, v = .ref a ∧
      ((∃ ys, SqL X.K H1 a ys ∧ (ys.length ≤ sizeLine → R (Itl X.K a) H1)) ∨ ∃ ys, SqT X.K H1 a ys ∧ (ys.length ≤ sizeLine → R (Itt X.K a) H1)) := by
    rintro ys ⟨a, vs, rfl, h1, h2, h3⟩ rfl
    exact ⟨a, rfl, .inl ⟨vs, SqL.of h1, fun hl => q _ _ p1.sm p1.gen (wk_l (fun H2 k => SqL.of (k.1 _ _ h1 h3.nga h3.ngb)) h2 hl)⟩⟩
  cases vi with
  | sh d =>
    obtain ⟨a, us, rfl, h1, h2⟩ := rep_it p1.val hx
    rcases h2 with ⟨_, h2⟩ | ⟨_, h2⟩
    · exact ⟨a, rfl, .inl ⟨us, h2.sq, fun hl => q _ _ p1.sm p1.gen (wk_l (fun H2 k => (k.2.fzl h2).sq) h1 hl)⟩⟩
    · exact ⟨a, rfl, .inr ⟨us, h2, fun hl => q _ _ p1.sm p1.gen (wk_t (fun H2 k => k.2.sqt h2) h1 hl)⟩⟩
  | ow ys =>
    cases hx
    obtain ⟨a, vs, e, h1, h2, h3, _⟩ := p1.val
    exact own _ ⟨a, vs, e, h1, h2, h3⟩ rfl
  | bw ys =>
    cases hx
    obtain ⟨a, vs, e, h1, h2, h3⟩ := p1.val
    exact own _ ⟨a, vs, e, h1, h2, h3⟩ rfl
  | od _ => cases hx
  | bd _ => cases hx
  | gen => cases hx
theorem s_itF {it : E} {x : Expr} (h : PE X x (tE X.K Γ H0 c it)) : PI X tgE x (tIf X.K Γ H0 c it) := pi_weak (pi_seq (s_share h)) fun σ H R hq => by
  obtain ⟨ρ, g, vi, g', d, xs, p, he, hd, hx, q⟩ := hq
  refine ⟨ρ, g, vi, g', d, p, he, hd, fun v H1 sm1 go1 r1 => ?_⟩
  obtain ⟨a, us, rfl, h1, h2⟩ := rep_it r1 hx
  rcases h2 with ⟨_, h2⟩ | ⟨_, h2⟩
  · exact ⟨a, rfl, .inl ⟨us, h2.sq, fun hl => q _ _ sm1 go1 (wk_l (fun H2 k => (k.fzl h2).sq) h1 hl)⟩⟩
  · exact ⟨a, rfl, .inr ⟨us, h2, fun hl => q _ _ sm1 go1 (wk_t (fun H2 k => k.sqt h2) h1 hl)⟩⟩
theorem rgD_some {u v : Vl} {xs : List D} (h : rgD u v = some xs) : ∃ i j, u = .sh (.int i) ∧ v = .sh (.int j) ∧ -16777216 ≤ i ∧ i ≤ 16777216 ∧ -16777216 ≤ j ∧ j ≤ 16777216 ∧ j - i ≤ 16777216 ∧ xs = rngD i j := by
  unfold rgD at h
  split at h
  · split at h
    · rename_i i j hz
      cases h
      exact ⟨i, j, rfl, rfl, hz.1, hz.2.1, hz.2.2.1, hz.2.2.2.1, hz.2.2.2.2, rfl⟩
    · cases h
  · cases h
theorem wk_rng {K : PySem.W.Frag} {Keep : Hp → Hp → Prop} {H : Hp} {i j : Int} (h : j - i ≤ 16777216) : Wk K Keep (Itr i (j - i).toNat) H (rngD i j) := wk_r (by rw [sizeLine_eq]; omega)
/-- range(b), range(a, b), walked -/
theorem p_r1 {a : E} {x : Expr} {p0 : Pos} (hg : Gl X "range") (hm : X.mg "range" = none) (ha : PE X x (tE X.K Γ H0 c a)) (hs : noStar x = true) : PI X tgE (.Call (.Name "range" p0) [x] [] pos) (iRng1 (tCons (tE X.K Γ H0 c a) tNil)) :=
  pi_range1 hg hm (pa_cons ha pa_nil (star_cons hs)) (star_cons hs)
theorem p_r2 {a b : E} {x y : Expr} {p0 : Pos} (hg : Gl X "range") (hm : X.mg "range" = none) (ha : PE X x (tE X.K Γ H0 c a)) (hb : PE X y (tE X.K Γ H0 c b)) (hs : noStar x = true) (hs2 : noStar y = true) :
    PI X tgE (.Call (.Name "range" p0) [x, y] [] pos) (iRng2 (tCons (tE X.K Γ H0 c a) (tCons (tE X.K Γ H0 c b) tNil))) :=
  pi_range2 hg hm (pa_cons ha (pa_cons hb pa_nil (star_cons hs2)) (star_cons hs)) ((star_cons hs).trans (by rw [star_cons hs2]; rfl)) (star_cons hs2)
theorem w_r1 {a : E} {σ : L2.St} {H : Hp} {ρ : Env} {g g' : G} {vi : Vl} {R : It → Hp → Prop} (p : Pre X.K Γ H0 σ H ρ g) (he : ev c (.r1 a) ρ g = some (vi, g')) (k : ∀ xs J H', vi = .ow xs → Sm Γ H H' → GenOk Γ H' g' → (∀ Keep, Wk X.K Keep J H' xs) → R J H') :
    iRng1 (tCons (tE X.K Γ H0 c a) tNil) σ H R := by
  simp only [ev, Option.bind_eq_bind, Option.bind_eq_some_iff] at he
  obtain ⟨⟨va, g1⟩, ea, xs, hxs, he⟩ := he
  cases he
  obtain ⟨i, j, e1, e2, h1, h2, h3, h4, h5, rfl⟩ := rgD_some hxs
  cases e1
  dsimp only at e2
  subst e2
  refine ⟨ρ, g, _, g1, p, ea, fun v H1 p1 => ?_⟩
  have e : v = .int j := Rdg.int (.inl p1.val)
  refine ⟨j, by rw [e], by omega, by omega, k _ _ _ rfl p1.sm p1.gen fun Keep => ?_⟩
  have := wk_rng (K := X.K) (Keep := Keep) (H := H1) h5
  rw [Int.sub_zero] at this
  exact this
theorem w_r2 {a b : E} {σ : L2.St} {H : Hp} {ρ : Env} {g g' : G} {vi : Vl} {R : It → Hp → Prop} (p : Pre X.K Γ H0 σ H ρ g) (he : ev c (.r2 a b) ρ g = some (vi, g')) (k : ∀ xs J H', vi = .ow xs → Sm Γ H H' → GenOk Γ H' g' → (∀ Keep, Wk X.K Keep J H' xs) → R J H') :
    iRng2 (tCons (tE X.K Γ H0 c a) (tCons (tE X.K Γ H0 c b) tNil)) σ H R := by
  simp only [ev, Option.bind_eq_bind, Option.bind_eq_some_iff] at he
  obtain ⟨⟨va, g1⟩, ea, ⟨vb, g2⟩, eb, xs, hxs, he⟩ := he
  cases he
  obtain ⟨i, j, e1, e2, h1, h2, h3, h4, h5, rfl⟩ := rgD_some hxs
  dsimp only at e1 e2
  subst e1
  subst e2
  refine ⟨ρ, g, _, g1, p, ea, fun v H1 p1 => ⟨ρ, g1, _, _, p.step p1.sm p1.gen, eb, fun u H2 p2 => ?_⟩⟩
  have e : v = .int i := Rdg.int (.inl p1.val)
  have e' : u = .int j := Rdg.int (.inl p2.val)
  exact ⟨i, j, by rw [e, e'], ⟨by omega, by omega, by omega, by omega⟩, k _ _ _ rfl (p1.sm.trans p2.sm) p2.gen fun Keep => wk_rng h5⟩
theorem s_r1R {a : E} {x : Expr} {p0 : Pos} (hg : Gl X "range") (hm : X.mg "range" = none) (ha : PE X x (tE X.K Γ H0 c a)) (hs : noStar x = true) : PI X tgE (.Call (.Name "range" p0) [x] [] pos) (tIr X.K Γ H0 c (.r1 a)) :=
  pi_weak (p_r1 hg hm ha hs) fun σ H R ⟨ρ, g, vi, g', xs, p, he, hx, q⟩ => w_r1 p he fun ys J H' e sm go wk => by
    subst e
    cases hx
    exact q J H' sm go (wk _)
theorem s_r1F {a : E} {x : Expr} {p0 : Pos} (hg : Gl X "range") (hm : X.mg "range" = none) (ha : PE X x (tE X.K Γ H0 c a)) (hs : noStar x = true) : PI X tgE (.Call (.Name "range" p0) [x] [] pos) (tIf X.K Γ H0 c (.r1 a)) :=
  pi_weak (p_r1 hg hm ha hs) fun σ H R ⟨ρ, g, vi, g', d, xs, p, he, hd, hx, q⟩ => w_r1 p he fun ys J H' e sm go wk => by
    subst e
    cases hd
    cases hx
    exact q J H' sm go (wk _)
theorem s_r2R {a b : E} {x y : Expr} {p0 : Pos} (hg : Gl X "range") (hm : X.mg "range" = none) (ha : PE X x (tE X.K Γ H0 c a)) (hb : PE X y (tE X.K Γ H0 c b)) (hs : noStar x = true) (hs2 : noStar y = true) :
    PI X tgE (.Call (.Name "range" p0) [x, y] [] pos) (tIr X.K Γ H0 c (.r2 a b)) :=
  pi_weak (p_r2 hg hm ha hb hs hs2) fun σ H R ⟨ρ, g, vi, g', xs, p, he, hx, q⟩ => w_r2 p he fun ys J H' e sm go wk => by
    subst e
    cases hx
    exact q J H' sm go (wk _)
theorem s_r2F {a b : E} {x y : Expr} {p0 : Pos} (hg : Gl X "range") (hm : X.mg "range" = none) (ha : PE X x (tE X.K Γ H0 c a)) (hb : PE X y (tE X.K Γ H0 c b)) (hs : noStar x = true) (hs2 : noStar y = true) :
    PI X tgE (.Call (.Name "range" p0) [x, y] [] pos) (tIf X.K Γ H0 c (.r2 a b)) :=
  pi_weak (p_r2 hg hm ha hb hs hs2) fun σ H R ⟨ρ, g, vi, g', d, xs, p, he, hd, hx, q⟩ => w_r2 p he fun ys J H' e sm go wk => by
    subst e
    cases hd
    cases hx
    exact q J H' sm go (wk _)
/-! list(range(..)) -/
theorem rgV_rng {K : PySem.W.Frag} {H : Hp} (i j : Int) : RepAll K H (rgV i j) (rngD i j) := rep_rng i _
theorem s_l1 {a : E} {x : Expr} {p0 p1 p2 : Pos} (hc : X.calm = true) (hg : Gl X "range") (hm : X.mg "range" = none) (hg2 : Gl X "list") (hm2 : X.mg "list" = none) (ha : PE X x (tE X.K Γ H0 c a)) (hs : noStar x = true) :
    PE X (.Call (.Name "list" p0) [.Call (.Name "range" p1) [x] [] p2] [] pos) (tE X.K Γ H0 c (.l1 a)) :=
  pe_weak (pe_listRg hc hg2 hm2 (prg_1 hg hm ha (star_cons hs))) fun σ H Q hq => by
    obtain ⟨ρ, g, r, g', p, he, q⟩ := hq
    simp only [ev, Option.bind_eq_bind, Option.bind_eq_some_iff] at he
    obtain ⟨⟨va, g1⟩, ea, xs, hxs, he⟩ := he
    cases he
    obtain ⟨i, j, e1, e2, h1, h2, h3, h4, h5, rfl⟩ := rgD_some hxs
    cases e1
    dsimp only at e2
    subst e2
    refine ⟨ρ, g, _, g1, p, ea, fun v H1 po => ?_⟩
    have e : v = .int j := Rdg.int (.inl po.val)
    refine ⟨j, e, ⟨by omega, by omega, by omega, by omega, by omega⟩, fun b hb => ?_⟩
    have sm : Same H1 (upd H1 b (.lst (rgV 0 j))) := same_upd hb
    exact q _ _ ⟨po.sm.trans (same_sm sm Γ), po.gen.same sm, NR.vr (p.old.trans po.sm) po.sm po.gen (r := .ow _) ⟨_, _, rfl, upd_same, rgV_rng 0 j, hb⟩⟩
theorem s_lr {a b : E} {x y : Expr} {p0 p1 p2 : Pos} (hc : X.calm = true) (hg : Gl X "range") (hm : X.mg "range" = none) (hg2 : Gl X "list") (hm2 : X.mg "list" = none) (ha : PE X x (tE X.K Γ H0 c a)) (hb : PE X y (tE X.K Γ H0 c b)) (hs : noStar x = true) (hs2 : noStar y = true) :
    PE X (.Call (.Name "list" p0) [.Call (.Name "range" p1) [x, y] [] p2] [] pos) (tE X.K Γ H0 c (.lr a b)) :=
  pe_weak (pe_listRg hc hg2 hm2 (prg_2 hg hm ha hb (star_cons hs) (star_cons hs2) (by rw [star_cons hs2]; rfl))) fun σ H Q hq => by
    obtain ⟨ρ, g, r, g', p, he, q⟩ := hq
    simp only [ev, Option.bind_eq_bind, Option.bind_eq_some_iff] at he
    obtain ⟨⟨va, g1⟩, ea, ⟨vb, g2⟩, eb, xs, hxs, he⟩ := he
    cases he
    obtain ⟨i, j, e1, e2, h1, h2, h3, h4, h5, rfl⟩ := rgD_some hxs
    dsimp only at e1 e2
    subst e1
    subst e2
    refine ⟨ρ, g, _, g1, p, ea, fun v H1 po => ⟨ρ, g1, _, _, p.step po.sm po.gen, eb, fun u H2 po2 => ?_⟩⟩
    have e : v = .int i := Rdg.int (.inl po.val)
    have e' : u = .int j := Rdg.int (.inl po2.val)
    have s12 := po.sm.trans po2.sm
    refine ⟨i, j, e, e', ⟨by omega, by omega, by omega, by omega, by omega⟩, fun b hb => ?_⟩
    have sm : Same H2 (upd H2 b (.lst (rgV i j))) := same_upd hb
    exact q _ _ ⟨s12.trans (same_sm sm Γ), po2.gen.same sm, NR.vr (p.old.trans s12) s12 po2.gen (r := .ow _) ⟨_, _, rfl, upd_same, rgV_rng i j, hb⟩⟩
end

/-! ### targets -/
def gNames : List Nat → TGs
  | [] => gNil
  | i :: is => gCons (gName i) (gNames is)
def tgG (K : PySem.W.Frag) : Tg → TG
  | .nm i => gName i
  | .tu is => gTup K is.length (gNames is)
theorem EnvR.set {K : PySem.W.Frag} {Γ : Gh} {H0 H : Hp} {σ : L2.St} {ρ : Env} {i : Nat} {v : V} {u : Vl} (e : EnvR K Γ H0 H σ ρ) (h : SR K Γ H0 H v u) (hs : u.own = true → ∀ j w, j ≠ i → ρ[j]? = some (some w) → w.own = true → σ[j]? ≠ some (some v)) :
    EnvR K Γ H0 H (σ.set i (some v)) (ρ.set i (some u)) := by
  refine ⟨by rw [List.length_set, List.length_set, e.len], fun j w hj => ?_, fun j k w1 w2 x hjk hj hk o1 o2 hx hy => ?_⟩
  · rw [List.getElem?_set] at hj ⊢
    split at hj
    · rename_i hij
      rw [if_pos hij, e.len]
      split at hj
      · rename_i hl
        cases hj
        exact ⟨v, by rw [if_pos hl], h⟩
      · cases hj
    · rename_i hij
      rw [if_neg hij]
      exact e.get j w hj
  · rw [List.getElem?_set] at hj hk hx hy
    by_cases e1 : i = j
    · by_cases e2 : i = k
      · exact hjk (e1.symm.trans e2)
      · rw [if_pos e1] at hj hx
        rw [if_neg e2] at hk hy
        split at hj
        · cases hj
          split at hx
          · cases hx
            exact hs o1 k w2 (fun z => e2 z.symm) hk o2 hy
          · cases hx
        · cases hj
    · by_cases e2 : i = k
      · rw [if_neg e1] at hj hx
        rw [if_pos e2] at hk hy
        split at hk
        · cases hk
          split at hy
          · cases hy
            exact hs o2 j w1 (fun z => e1 z.symm) hj o1 hx
          · cases hy
        · cases hk
      · rw [if_neg e1] at hj hx
        rw [if_neg e2] at hk hy
        exact e.sep j k w1 w2 x hjk hj hk o1 o2 hx hy
theorem EnvR.setSh {K : PySem.W.Frag} {Γ : Gh} {H0 H : Hp} {σ : L2.St} {ρ : Env} {i : Nat} {v : V} {d : D} (e : EnvR K Γ H0 H σ ρ) (h : Rep K H v d) : EnvR K Γ H0 H (σ.set i (some v)) (ρ.set i (some (.sh d))) :=
  e.set (u := .sh d) h fun z => by cases z
theorem EnvR.unset {K : PySem.W.Frag} {Γ : Gh} {H0 H : Hp} {σ : L2.St} {ρ : Env} {i : Nat} (e : EnvR K Γ H0 H σ ρ) : EnvR K Γ H0 H (σ.set i none) (ρ.set i none) := by
  have back : ∀ {α : Type} {l : List (Option α)} {j : Nat} {w : α}, (l.set i none)[j]? = some (some w) → i ≠ j ∧ l[j]? = some (some w) := fun {α l j w} h => by
    rw [List.getElem?_set] at h
    split at h
    · split at h
      · cases h
      · cases h
    · rename_i hne
      exact ⟨hne, h⟩
  refine ⟨by rw [List.length_set, List.length_set, e.len], fun j w hj => ?_, fun j k w1 w2 x hjk hj hk o1 o2 hx hy => ?_⟩
  · obtain ⟨h1, h2⟩ := back hj
    rw [List.getElem?_set_ne h1]
    exact e.get j w h2
  · exact e.sep j k w1 w2 x hjk (back hj).2 (back hk).2 o1 o2 (back hx).2 (back hy).2
theorem EnvR.wipe {K : PySem.W.Frag} {Γ : Gh} {H0 H : Hp} {σ : L2.St} {ρ : Env} (e : EnvR K Γ H0 H σ ρ) : ∀ vs, EnvR K Γ H0 H (wipe σ vs) (wipeE ρ vs)
  | [] => e
  | _ :: vs => (EnvR.wipe e vs).unset
theorem wipe_set (σ : L2.St) (i : Nat) (x : Option V) : ∀ vs, wipe (σ.set i x) vs = wipe σ vs ∨ (i ∉ vs ∧ wipe (σ.set i x) vs = (wipe σ vs).set i x)
  | [] => .inr ⟨by simp, rfl⟩
  | v :: vs => by
    show (wipe (σ.set i x) vs).set v none = (wipe σ vs).set v none ∨ (_ ∧ (wipe (σ.set i x) vs).set v none = ((wipe σ vs).set v none).set i x)
    rcases wipe_set σ i x vs with h | ⟨h1, h2⟩
    · rw [h]; exact .inl rfl
    · rw [h2]
      by_cases e : i = v
      · subst e
        rw [List.set_set]
        exact .inl rfl
      · refine .inr ⟨by simp only [List.mem_cons, not_or]; exact ⟨e, h1⟩, ?_⟩
        rw [List.set_comm _ _ e]
theorem wipe_in {σ : L2.St} {i : Nat} {x : Option V} {vs : List Nat} (h : i ∈ vs) : wipe (σ.set i x) vs = wipe σ vs := by
  rcases wipe_set σ i x vs with z | ⟨z, _⟩
  · exact z
  · exact absurd h z
theorem names_ok {K : PySem.W.Frag} {Γ : Gh} {H0 H : Hp} {ws : List Nat} : ∀ {is : List Nat} {ds : List D} {vs : List V} {σ : L2.St} {ρ : Env} {Q : L2.St → Hp → Prop}, RepAll K H vs ds → is.length = ds.length → EnvR K Γ H0 H σ ρ → (∀ i ∈ is, i ∈ ws) →
    (∀ σ1, EnvR K Γ H0 H σ1 ((is.zip ds).foldl (fun ρ p => ρ.set p.1 (some (.sh p.2))) ρ) → wipe σ1 ws = wipe σ ws → Q σ1 H) → gNames is vs σ H Q
  | [], [], _, σ, ρ, Q, .nil, _, e, _, q => ⟨rfl, q σ e rfl⟩
  | i :: is, d :: ds, _, σ, ρ, Q, .cons (v := v) (vs := vs) h r, hl, e, hw, q => by
    refine ⟨v, vs, rfl, names_ok r (by simpa using hl) (e.setSh (i := i) h) (fun j hj => hw j (List.mem_cons_of_mem _ hj)) fun σ1 e1 w1 => q σ1 e1 ?_⟩
    rw [w1, wipe_in (hw i List.mem_cons_self)]
  | [], _ :: _, _, _, _, _, _, hl, _, _, _ => by simp at hl
  | _ :: _, [], _, _, _, _, _, hl, _, _, _ => by simp at hl
theorem bind_ok {K : PySem.W.Frag} {Γ : Gh} {H0 H : Hp} {tg : Tg} {d : D} {v : V} {σ : L2.St} {ρ ρ1 : Env} {ws : List Nat} {Q : L2.St → Hp → Prop} (r : Rep K H v d) (hb : bindTg tg d ρ = some ρ1) (e : EnvR K Γ H0 H σ ρ) (hw : ∀ i ∈ tg.slots, i ∈ ws)
    (q : ∀ σ1, EnvR K Γ H0 H σ1 ρ1 → wipe σ1 ws = wipe σ ws → Q σ1 H) : tgG K tg v σ H Q := by
  cases tg with
  | nm i =>
    cases hb
    exact q _ (e.setSh r) (wipe_in (hw i (by simp [Tg.slots])))
  | tu is =>
    cases d <;> simp only [bindTg] at hb <;> try (cases hb; done)
    split at hb
    · rename_i hl
      cases hb
      obtain ⟨a, us, rfl, r1, h⟩ := rep_it r rfl
      rcases h with ⟨h, _⟩ | ⟨_, h⟩
      · cases h
      · exact ⟨a, us, rfl, h, by rw [r1.length, hl], names_ok r1 hl e hw q⟩
    · cases hb
section
variable {X : Cx} {Γ : Gh} {H0 : Hp} {c : Cf} {pos : Pos}
/-! ### comprehensions -/
theorem pts_weak {X : Cx} {ifs : List Expr} {t t' : TT} (h : PTs X ifs t) (k : ∀ σ H Q, t' σ H Q → t σ H Q) : PTs X ifs t' := ⟨fun pins s σ H Q I q => h.run pins s σ H Q I (k σ H Q q)⟩
theorem s_pts0 : PTs X [] (tT X.K Γ H0 c (.bl true)) := pts_weak pts_nil fun σ H Q hq => by
  obtain ⟨ρ, g, b, g', p, he, q⟩ := hq
  cases he
  exact q H (Sm.refl _ _) p.gen
theorem upd_ext {H : Hp} {a : Addr} {xs : List V} {u : HO} (h : H a = some (.lst xs)) : Ext H (upd H a u) := ⟨fun b ys e => by rw [upd_ne (by intro z; rw [z, h] at e; cases e)]; exact e, fun b o w e => by rw [upd_ne (by intro z; rw [z, h] at e; cases e)]; exact e⟩
theorem t_lc {tg : Tg} {it t el : E} {σ : L2.St} {H : Hp} {Q : VK} (hq : tE X.K Γ H0 c (.lc tg it t el) σ H Q) : tLc (tIr X.K Γ H0 c it) (tgG X.K tg) (tT X.K Γ H0 c t) (tD X.K Γ H0 c el) tg.slots σ H Q := by
  obtain ⟨ρ, g, r, g', p, he, q⟩ := hq
  simp only [ev, Option.bind_eq_bind, Option.bind_eq_some_iff] at he
  obtain ⟨⟨vi, g1⟩, ei, xs, hxs, ⟨ys, g2⟩, hl, he⟩ := he
  cases he
  refine ⟨ρ, g, vi, g1, xs, p, ei, Option.bind_eq_some_iff.mpr hxs, fun J H1 sm1 go1 wk D hD => ?_⟩
  obtain ⟨us, rus, hlen, hw⟩ := wk.ex
  have oa : OwnAt Γ H0 D := new_at (p.old.trans sm1) go1 hD (fun _ _ => True.intro)
  have hDs : H D = none := (new_at sm1 go1 hD (fun _ _ => True.intro)).new
  generalize hfc : (fun ρ g => (ev c t ρ g).bind fun x => (truth x.1).bind fun b => some (b, x.2)) = fc at hl
  generalize hfe : (fun ρ g => (ev c el ρ g).bind fun x => x.1.share.bind fun d => some ([d], x.2)) = fe at hl
  refine ⟨fun i m H2 => m = xs.length - i ∧ i ≤ xs.length ∧ ∃ gi acc ys1 zs, Sm Γ H1 H2 ∧ GenOk Γ H2 gi ∧ H2 D = some (.lst acc) ∧ RepAll X.K H2 acc ys1 ∧ acc.length ≤ i ∧ lcLoop fc fe (bindTg tg) (wipeE ρ tg.slots) (xs.drop i) gi = some (zs, g2) ∧ ys = ys1 ++ zs, ⟨xs.length, by simp, Nat.zero_le _, ?_⟩, ?_⟩
  · have sm : Same H1 (upd H1 D (.lst [])) := same_upd hD
    exact ⟨g1, [], [], ys, same_sm sm Γ, go1.same sm, upd_same, .nil, Nat.le_refl _, hl, rfl⟩
  · rintro i m H2 ⟨rfl, hi, gi, acc, ys1, zs, sm2, go2, hD2, r2, hacc, hlp, hys⟩
    have w2 := hw H2 ⟨sm2, sm2.ext go1⟩ i
    by_cases hlt : i < xs.length
    · obtain ⟨d, hd⟩ : ∃ d, xs[i]? = some d := ⟨xs[i], by simp [hlt]⟩
      obtain ⟨go, yl⟩ := w2.1 d hd
      rw [List.drop_eq_getElem_cons hlt] at hlp
      have hxi : xs[i] = d := by rw [List.getElem?_eq_getElem hlt] at hd; exact Option.some.inj hd
      rw [hxi] at hlp
      simp only [lcLoop, Option.bind_eq_bind, Option.bind_eq_some_iff] at hlp
      obtain ⟨ρ1, hb, ⟨b, ga⟩, hf, hlp⟩ := hlp
      refine .inr ⟨go, fun H' => ∃ gi acc ys1 zs, Sm Γ H1 H' ∧ GenOk Γ H' gi ∧ H' D = some (.lst acc) ∧ RepAll X.K H' acc ys1 ∧ acc.length ≤ i + 1 ∧ lcLoop fc fe (bindTg tg) (wipeE ρ tg.slots) (xs.drop (i + 1)) gi = some (zs, g2) ∧ ys = ys1 ++ zs,
        fun H' z => ⟨xs.length - (i + 1), by omega, rfl, hlt, z⟩, fun x H' y => ?_⟩
      obtain ⟨e, hx⟩ := yl x H' y
      subst e
      obtain ⟨d', hd', rx⟩ := rus.get' hx
      rw [hd] at hd'
      cases hd'
      have env2 : EnvR X.K Γ H0 H' (wipe σ tg.slots) (wipeE ρ tg.slots) := ((p.env.sm sm1 p.gen).sm sm2 go1).wipe _
      refine bind_ok (ws := tg.slots) (rx.mono (sm2.ext go1)) hb env2 (fun i h => h) fun σ2 env3 hw3 => ⟨?_, ?_⟩
      · rw [hw3]
        clear hw3 env3 env2 hb rx hx yl
        have idem : ∀ (vs us : List Nat), (∀ v ∈ vs, v ∈ us) → wipe (wipe σ vs) us = wipe σ us := by
          intro vs
          induction vs with
          | nil => intro us _; rfl
          | cons v vs ih =>
            intro us hs
            show wipe ((wipe σ vs).set v none) us = _
            rw [wipe_in (hs v List.mem_cons_self)]
            exact ih us fun w hw => hs w (List.mem_cons_of_mem _ hw)
        exact idem _ _ fun _ h => h
      · have pre : Pre X.K Γ H0 σ2 H' ρ1 gi := ⟨env3, go2, p.old.trans (sm1.trans sm2)⟩
        rw [← hfc] at hf
        refine ⟨ρ1, gi, b, ga, pre, hf, fun H3 sm3 go3 => ?_⟩
        have hD3 : H3 D = some (.lst acc) := sm3 _ _ hD2 oa.nga oa.ngb
        cases b with
        | false =>
          simp only [Bool.false_eq_true, if_false] at hlp ⊢
          exact ⟨ga, acc, ys1, zs, sm2.trans sm3, go3, hD3, r2.mono (sm3.ext go2), by omega, hlp, hys⟩
        | true =>
          simp only [if_true, Option.bind_eq_some_iff] at hlp ⊢
          obtain ⟨⟨ye, gb⟩, hfe2, ⟨zs', gc⟩, hrest, e2⟩ := hlp
          cases e2
          rw [← hfe] at hfe2
          simp only [Option.bind_eq_some_iff] at hfe2
          obtain ⟨⟨vy, gy⟩, ey, dy, hdy, e3⟩ := hfe2
          cases e3
          refine ⟨ρ1, ga, vy, _, dy, pre.step sm3 go3, ey, hdy, fun y4 H4 sm4 go4 r4 => ?_⟩
          have hD4 : H4 D = some (.lst acc) := sm4 _ _ hD3 oa.nga oa.ngb
          refine ⟨acc, hD4, by omega, _, acc ++ [y4], ys1 ++ [dy], zs', ?_, ?_, upd_same, ?_, ?_, hrest, ?_⟩
          · exact fun b u e n1 n2 => by
              rw [upd_ne (by intro z; rw [z, hD] at e; cases e)]
              exact (sm2.trans (sm3.trans sm4)) b u e n1 n2
          · exact ⟨by rw [upd_ne (Ne.symm oa.nga)]; exact go4.1, by rw [upd_ne (Ne.symm oa.ngb)]; exact go4.2.1, go4.2.2⟩
          · exact (((r2.mono (sm3.ext go2)).mono (sm4.ext go3)).append (.cons r4 .nil)).mono (upd_ext hD4)
          · rw [List.length_append]; simp; omega
          · rw [hys]; simp
    · have e : i = xs.length := by omega
      subst e
      rw [List.drop_length] at hlp
      cases hlp
      refine .inl ⟨w2.2 (Nat.le_refl _), q _ _ ⟨sm1.trans sm2, go2, ⟨D, acc, rfl, hD2, ?_, oa, hDs⟩⟩⟩
      rw [hys, List.append_nil]
      exact r2
end
end Pu
set_option Elab.async false
set_option maxRecDepth 100000
set_option maxHeartbeats 8000000
set_option linter.all false
/-! P9: terms against the text; every reading is right. -/
namespace Pu
open PySem PySem.Spec PyProof.Rows L2

/-- a place in the text where a term stands -/
inductive Src where
  | e (x : Expr)
  | a (xs : List Expr)
  | t (x : Expr)
  | w (x : Expr)
  | i (x : Expr)
  | d (ks : List (Option Expr)) (vs : List Expr)
  | d2 (v : Expr) (ks : List (Option Expr)) (vs : List Expr)

structure Cks where
  N : List Str
  fs : List (Str × Bool × Nat)
  cs : List Str

def Bf.id : Bf → String
  | .len => "len"
  | .abs => "abs"
  | .int => "int"
  | .max => "max"
  | .min => "min"
  | .all => "all"
  | .any => "any"
  | .list => "list"
  | .tuple => "tuple"
  | .sorted => "sorted"
def Bf.isT : Bf → Bool
  | .int => true
  | .list => true
  | .tuple => true
  | _ => false
def blts : List Str := ["len", "abs", "int", "max", "min", "all", "any", "list", "tuple", "sorted", "isinstance", "range", "bool", "str", "dict"]
def visB (sc : Scope) (x : Str) : Bool := match sc.names.lookup x with
  | some .local => true
  | some .cell => true
  | some .free => true
  | _ => false
def locB (sc : Scope) (x : Str) : Bool := match sc.names.lookup x with
  | some .local => true
  | some .cell => true
  | _ => false
def glB (sc : Scope) (x : Str) : Bool := match sc.names.lookup x with
  | some .globalImplicit => true
  | _ => false
def nmB (N : List Str) (sc : Scope) (i : Nat) (x : Str) : Bool := decide (N[i]? = some x) && (visB sc x && (!(x == "__debug__") && !(x == "__classdict__")))
def plainT : Expr → Bool
  | .Name .. => true
  | .Call .. => true
  | .Subscript .. => true
  | .Constant .. => true
  | .Tuple .. => true
  | .List .. => true
  | .ListComp .. => true
  | _ => false
def noSet : Expr → Bool
  | .Set .. => false
  | _ => true
def nameOf : Expr → Option Str
  | .Name x _ => some x
  | _ => none
/-- the target of a walk: its names with their slots -/
def tgOwn : Tg → Expr → Option (List (Str × Nat))
  | .nm i, .Name x _ => some [(x, i)]
  | .tu is, .Tuple es _ _ => (es.mapM nameOf).bind fun xs => if xs.length = is.length then some (xs.zip is) else none
  | _, _ => none
def isGet : Me → Bool
  | .get => true
  | _ => false
def isTrueC : E → Bool
  | .bl true => true
  | _ => false

def ck (C : Cks) : E → Scope → Src → Bool
  | .nil => fun sc s => match s with
    | .a [] => true
    | .d [] [] => true
    | _ => false
  | .cons a b => fun sc s => match s with
    | .a (x :: xs) => noStar x && (ck C a sc (.e x) && ck C b sc (.a xs))
    | .d (some k :: ks) (v :: vs) => ck C a sc (.e k) && ck C b sc (.d2 v ks vs)
    | .d2 v ks vs => ck C a sc (.e v) && ck C b sc (.d ks vs)
    | _ => false
  | .nm i => fun sc s => match s with
    | .e (.Name x _) => nmB C.N sc i x
    | _ => false
  | .int i => fun sc s => match s with
    | .e (.Constant (.int j) _ _) => decide (i = j)
    | _ => false
  | .str z => fun sc s => match s with
    | .e (.Constant (.str y) _ _) => decide (z = y)
    | _ => false
  | .bl b => fun sc s => match s with
    | .e (.Constant (.bool d) _ _) => decide (b = d)
    | _ => false
  | .non => fun sc s => match s with
    | .e (.Constant .none _ _) => true
    | _ => false
  | .gl x => fun sc s => match s with
    | .e (.Name y _) => decide (x = y) && (glB sc x && (decide (x ∈ C.cs) && !(x == "__debug__")))
    | _ => false
  | .tu es => fun sc s => match s with
    | .e (.Tuple xs _ _) => ck C es sc (.a xs) && decide (xs.length ≤ 1000)
    | _ => false
  | .li es => fun sc s => match s with
    | .e (.List xs _) => ck C es sc (.a xs) && decide (xs.length ≤ 1000)
    | _ => false
  | .rp es a => fun sc s => match s with
    | .e (.BinOp (.List xs _) .Mult y _) => ck C es sc (.a xs) && (decide (xs.length ≤ 1000) && ck C a sc (.e y))
    | _ => false
  | .di es => fun sc s => match s with
    | .e (.Dict ks vs _) => ck C es sc (.d ks vs) && (es.row && (decide (es.len ≤ 30) && (ks.all (·.isSome) && (decide (ks.length = vs.length) && (!ks.isEmpty && decide (ks.length ≤ 15))))))
    | _ => false
  | .bi op a b => fun sc s => match s with
    | .e (.BinOp x o y _) => decide (o = op.py) && (ck C a sc (.e x) && ck C b sc (.e y))
    | _ => false
  | .neg a => fun sc s => match s with
    | .e (.UnaryOp .USub x _) => ck C a sc (.e x)
    | _ => false
  | .cm op a b => fun sc s => match s with
    | .e (.Compare x [o] [y] _) => decide (o = op.py) && (!behindInMarks op.py y && (ck C a sc (.e x) && ck C b sc (.e y)))
    | .t (.Compare x [o] [y] _) => decide (o = op.py) && (!behindInMarks op.py y && (ck C a sc (.e x) && ck C b sc (.e y)))
    | _ => false
  | .ch o1 o2 a b d => fun sc s => match s with
    | .e (.Compare x [p1, p2] [y, z] _) => decide (p1 = o1.py) && (decide (p2 = o2.py) && (!lastMarks [o1.py, o2.py] [y, z] && (ck C a sc (.e x) && (ck C b sc (.e y) && ck C d sc (.e z)))))
    | .t (.Compare x [p1, p2] [y, z] _) => decide (p1 = o1.py) && (decide (p2 = o2.py) && (!lastMarks [o1.py, o2.py] [y, z] && (ck C a sc (.e x) && (ck C b sc (.e y) && ck C d sc (.e z)))))
    | _ => false
  | .an a b => fun sc s => match s with
    | .e (.BoolOp .And (x :: y :: r) p) => ck C a sc (.e x) && (match r with
      | [] => ck C b sc (.e y)
      | z :: r => ck C b sc (.e (.BoolOp .And (y :: z :: r) p)))
    | .t (.BoolOp .And (x :: y :: r) p) => (ck C a sc (.t x) || (plainT x && ck C a sc (.e x))) && (match r with
      | [] => ck C b sc (.t y) || (plainT y && ck C b sc (.e y))
      | z :: r => ck C b sc (.w (.BoolOp .And (y :: z :: r) p)))
    | .w (.BoolOp .And (x :: y :: r) p) => (ck C a sc (.t x) || (plainT x && ck C a sc (.e x))) && (match r with
      | [] => ck C b sc (.t y) || (plainT y && ck C b sc (.e y))
      | z :: r => ck C b sc (.w (.BoolOp .And (y :: z :: r) p)))
    | _ => false
  | .or a b => fun sc s => match s with
    | .e (.BoolOp .Or (x :: y :: r) p) => ck C a sc (.e x) && (match r with
      | [] => ck C b sc (.e y)
      | z :: r => ck C b sc (.e (.BoolOp .Or (y :: z :: r) p)))
    | .t (.BoolOp .Or (x :: y :: r) p) => (ck C a sc (.t x) || (plainT x && ck C a sc (.e x))) && (match r with
      | [] => ck C b sc (.t y) || (plainT y && ck C b sc (.e y))
      | z :: r => ck C b sc (.w (.BoolOp .Or (y :: z :: r) p)))
    | .w (.BoolOp .Or (x :: y :: r) p) => (ck C a sc (.t x) || (plainT x && ck C a sc (.e x))) && (match r with
      | [] => ck C b sc (.t y) || (plainT y && ck C b sc (.e y))
      | z :: r => ck C b sc (.w (.BoolOp .Or (y :: z :: r) p)))
    | _ => false
  | .no a => fun sc s => match s with
    | .e (.UnaryOp .Not x _) => ck C a sc (.e x)
    | .t (.UnaryOp .Not x _) => ck C a sc (.t x) || (plainT x && ck C a sc (.e x))
    | _ => false
  | .ie t a b => fun sc s => match s with
    | .e (.IfExp z x y _) => (ck C t sc (.t z) || (plainT z && ck C t sc (.e z))) && (ck C a sc (.e x) && ck C b sc (.e y))
    | _ => false
  | .ix a b => fun sc s => match s with
    | .e (.Subscript x y _) => noSlice y && (ck C a sc (.e x) && ck C b sc (.e y))
    | _ => false
  | .sl a lo hi => fun sc s => match s with
    | .e (.Subscript x (.Slice l h none _) _) => ck C a sc (.e x) && ((match l with
      | none => lo.isNil
      | some y => !lo.isNil && ck C lo sc (.e y)) && (match h with
      | none => hi.isNil
      | some y => !hi.isNil && ck C hi sc (.e y)))
    | _ => false
  | .ca f gi es => fun sc s => match s with
    | .e (.Call (.Name y _) (x :: xs) [] _) => decide (f = y) && (glB sc f && (!(f == "__debug__") && (match gi with
      | none => decide ((f, false, es.len) ∈ C.fs) && ck C es sc (.a (x :: xs))
      | some i => (match x with
        | .Name z _ => nmB C.N sc i z
        | _ => false) && (decide ((f, true, es.len + 1) ∈ C.fs) && ck C es sc (.a xs)))))
    | _ => false
  | .bf f es => fun sc s => match s with
    | .e (.Call (.Name y _) (x :: xs) [] _) => decide (y = Str.ofString f.id) && (glB sc y && ck C es sc (.a (x :: xs)))
    | _ => false
  | .me m o es => fun sc s => match s with
    | .e (.Call (.Attribute x n apos) ys [] cpos) => isGet m && (decide (n = "get") && (noCall0 x && ((apos.endLine == cpos.line) && ((decide (ys.length = 1) || decide (ys.length = 2)) && (ck C o sc (.e x) && ck C es sc (.a ys))))))
    | _ => false
  | .isi a t => fun sc s => match s with
    | .e (.Call (.Name y _) [x, .Name z _] [] _) => decide (y = "isinstance") && (decide (z = Str.ofString t.py) && (glB sc y && (glB sc z && (noStar x && ck C a sc (.e x)))))
    | _ => false
  | .r1 a => fun sc s => match s with
    | .i (.Call (.Name y _) [x] [] _) => decide (y = "range") && (glB sc y && (noStar x && ck C a sc (.e x)))
    | _ => false
  | .r2 a b => fun sc s => match s with
    | .i (.Call (.Name y _) [x, z] [] _) => decide (y = "range") && (glB sc y && (noStar x && (noStar z && (ck C a sc (.e x) && ck C b sc (.e z)))))
    | _ => false
  | .l1 a => fun sc s => match s with
    | .e (.Call (.Name v _) [.Call (.Name y _) [x] [] _] [] _) => decide (v = "list") && (decide (y = "range") && (glB sc v && (glB sc y && (noStar x && ck C a sc (.e x)))))
    | _ => false
  | .lr a b => fun sc s => match s with
    | .e (.Call (.Name v _) [.Call (.Name y _) [x, z] [] _] [] _) => decide (v = "list") && (decide (y = "range") && (glB sc v && (glB sc y && (noStar x && (noStar z && (ck C a sc (.e x) && ck C b sc (.e z)))))))
    | _ => false
  | .lc tg it t el => fun sc s => match s with
    | .e (.ListComp elt [⟨tgE, iter, ifs, 0⟩] scope _) => (ck C it sc (.i iter) || (noSet iter && ck C it sc (.e iter))) && ((match tgOwn tg tgE with
      | some own => blkC C.N sc scope own && (own.all fun p => locB scope p.1)
      | none => false) && ((match ifs with
      | [] => isTrueC t
      | [x] => ck C t (relS scope sc) (.t x) || (plainT x && ck C t (relS scope sc) (.e x))
      | _ => false) && ck C el (relS scope sc) (.e elt)))
    | _ => false
  | .l2 _ _ _ _ _ _ _ => fun _ _ => false

/-- what is known where a term is read -/
structure Ok (C : Cks) (c : Cf) (k : Nat) (X : Cx) (sc : Scope) : Prop where
  names : X.N = C.N
  nd : C.N.Nodup
  scope : X.env.scope = sc
  calm : X.calm = true
  room : Room k X.A
  fn : ∀ f gen n, (f, gen, n) ∈ C.fs → FnH X c k f gen n
  cst : ∀ x ∈ C.cs, ∃ u v d, X.mg x = some u ∧ RelV v u ∧ (∀ H, Rep X.K H v d) ∧ c.cst x = some (.sh d)
  blt : ∀ x ∈ blts, X.mg x = none
theorem Ok.units {C : Cks} {c : Cf} {k : Nat} {X : Cx} {sc : Scope} (o : Ok C c k X sc) : X.A.units + 200 < cLine := by have := o.room.un; omega
theorem Ok.blk {C : Cks} {c : Cf} {k : Nat} {X : Cx} {sc scope : Scope} (o : Ok C c k X sc) (s : Shared) (H : Hp) (D : Addr) (cl : List (Str × Addr)) (fp : List Addr) : Ok C c k (X.blk s H scope (compEnvC scope cl D X.env) fp) (relS scope sc) :=
  ⟨o.names, o.nd, by rw [← o.scope]; rfl, o.calm, o.room, fun f gen n h => ⟨(o.fn f gen n h).ex⟩, o.cst, o.blt⟩
theorem vis_of {sc : Scope} {x : Str} (h : visB sc x = true) : Vis sc x := by
  unfold visB at h
  split at h
  · exact .inl (by assumption)
  · exact .inr (.inl (by assumption))
  · exact .inr (.inr (by assumption))
  · cases h
theorem loc_of {sc : Scope} {x : Str} (h : locB sc x = true) : Loc sc x := by
  unfold locB at h
  split at h
  · exact .inl (by assumption)
  · exact .inr (by assumption)
  · cases h
section
variable {C : Cks} {c : Cf} {k : Nat} {X : Cx} {sc : Scope} {Γ : Gh} {H0 : Hp}
theorem Ok.gl (o : Ok C c k X sc) {x : Str} (h : glB sc x = true) : Gl X x := by
  unfold glB at h
  show X.env.scope.names.lookup x = _
  rw [o.scope]
  split at h
  · assumption
  · cases h
theorem bnot {b : Bool} (h : (!b) = true) : b = false := by cases b <;> first | rfl | cases h
theorem Ok.var (o : Ok C c k X sc) {i : Nat} {x : Str} {pos : Pos} (h : nmB C.N sc i x = true) : PE X (.Name x pos) (tVar i) := by
  unfold nmB at h
  simp only [Bool.and_eq_true, decide_eq_true_eq] at h
  exact pe_var (by rw [o.names]; exact h.1) (by rw [o.scope]; exact vis_of h.2.1) (bnot h.2.2.1) (bnot h.2.2.2)
theorem plainT_ok {x : Expr} (h : plainT x = true) (env : PySem.Env) (whole : Sem Value) : isTrue x env whole = (do let v ← whole; standAt x.pos; holding [v] (truthy v)) := by
  cases x <;> first | (cases h; done) | rfl
theorem noSet_ok {x : Expr} (h : noSet x = true) (env : PySem.Env) (v : Value) : foldedSetIterable x env v = pure v := by
  cases x <;> first | (cases h; done) | rfl
theorem pe_solo {op : BoolOp} {x : Expr} {t : TE} {pos : Pos} (h : PE X x t) : PE X (.BoolOp op [x] pos) t := ⟨fun pins s σ H Q I q => h.run pins s σ H Q I q⟩
theorem bf_ok (o : Ok C c k X sc) (f : Bf) : (f.isT = true → CallR X (.type f.id) (rA X.K (bfD f)) ∧ bootBuiltins (Str.ofString f.id) = some (.type f.id)) ∧ (f.isT = false → CallR X (.builtin f.id) (rA X.K (bfD f)) ∧ bootBuiltins (Str.ofString f.id) = some (.builtin f.id)) := by
  cases f <;> refine ⟨fun h => ?_, fun h => ?_⟩ <;> first
    | (cases h; done)
    | exact ⟨cb_len, by decide +kernel⟩
    | exact ⟨cb_abs, by decide +kernel⟩
    | exact ⟨cb_int, by decide +kernel⟩
    | exact ⟨cb_max o.calm, by decide +kernel⟩
    | exact ⟨cb_min o.calm, by decide +kernel⟩
    | exact ⟨cb_all o.calm, by decide +kernel⟩
    | exact ⟨cb_any o.calm, by decide +kernel⟩
    | exact ⟨cb_list, by decide +kernel⟩
    | exact ⟨cb_tuple, by decide +kernel⟩
    | exact ⟨cb_sorted o.units, by decide +kernel⟩
theorem bf_name (f : Bf) : Str.ofString f.id ∈ blts ∧ Str.ofString f.id ≠ "__name__" ∧ (Str.ofString f.id == ("__debug__" : Str)) = false := by
  cases f <;> decide +kernel
theorem ty_name (t : Ty) : Str.ofString t.py ∈ blts ∧ Str.ofString t.py ≠ "__name__" ∧ (Str.ofString t.py == ("__debug__" : Str)) = false ∧ bootBuiltins (Str.ofString t.py) = some (.type t.py) := by
  cases t <;> decide +kernel
theorem s_bf (o : Ok C c k X sc) {f : Bf} {es : E} {e : Expr} {xs : List Expr} {p0 pos : Pos} (hg : glB sc (Str.ofString f.id) = true) (ha : PA X (e :: xs) (tR X.K Γ H0 c es)) (hst : (e :: xs).all noStar = true) : PE X (.Call (.Name (Str.ofString f.id) p0) (e :: xs) [] pos) (tE X.K Γ H0 c (.bf f es)) := by
  obtain ⟨h1, h2⟩ := bf_ok o f
  obtain ⟨n1, n2, n3⟩ := bf_name f
  cases hf : f.isT with
  | true => exact s_callTy (h1 hf).1 (o.gl hg) (o.blt _ n1) (h1 hf).2 ha hst n2 n3
  | false => exact s_callB (h2 hf).1 (o.gl hg) (o.blt _ n1) (h2 hf).2 ha hst n2 n3

/-- a row, read item by item -/
def Row (X : Cx) (Γ : Gh) (H0 : Hp) (c : Cf) : E → List Expr → Prop
  | .nil, [] => True
  | .cons a b, x :: xs => PE X x (tE X.K Γ H0 c a) ∧ noStar x = true ∧ Row X Γ H0 c b xs
  | _, _ => False
def tPr2 (K : PySem.W.Frag) (Γ : Gh) (H0 : Hp) (c : Cf) (tk : TE) : E → List (TE × TE)
  | .cons v r => (tk, tD K Γ H0 c v) :: tPr K Γ H0 c r
  | _ => []
/-- the readings of one term, place by place -/
def Snd (X : Cx) (Γ : Gh) (H0 : Hp) (c : Cf) (e : E) : Src → Prop
  | .e x => PE X x (tE X.K Γ H0 c e)
  | .a xs => Row X Γ H0 c e xs
  | .t x => PT X x (tT X.K Γ H0 c e)
  | .w x => PW X x (tT X.K Γ H0 c e)
  | .i x => (∀ tg, PI X tg x (tIr X.K Γ H0 c e) ∧ PI X tg x (tIf X.K Γ H0 c e)) ∧ noSet x = true
  | .d ks vs => ∀ pos, PPs X pos ks vs (tPr X.K Γ H0 c e)
  | .d2 v ks vs => ∀ pos k tk, PE X k tk → PPs X pos (some k :: ks) (v :: vs) (tPr2 X.K Γ H0 c tk e)
theorem row_facts : ∀ {es : E} {xs : List Expr}, Row X Γ H0 c es xs → PA X xs (tA X.K Γ H0 c es) ∧ PA X xs (tR X.K Γ H0 c es) ∧ PA X xs (tP X.K Γ H0 c es) ∧ es.row = true ∧ es.len = xs.length ∧ xs.all noStar = true
  | es, xs, h => by
    induction es generalizing xs with
    | nil =>
      cases xs with
      | nil => exact ⟨s_nil, s_rnil, s_pnil, rfl, rfl, rfl⟩
      | cons _ _ => exact h.elim
    | cons a b _ ih =>
      cases xs with
      | nil => exact h.elim
      | cons x xs =>
        obtain ⟨h1, h2, h3⟩ := h
        obtain ⟨r1, r2, r3, r4, r5, r6⟩ := ih _ h3
        exact ⟨s_cons h1 r1 (star_cons h2), s_rcons h1 r2 (star_cons h2), s_pcons h1 r3 (star_cons h2), r4, by show b.len + 1 = _; rw [r5]; rfl, by rw [List.all_cons, h2, r6]; rfl⟩
    | _ => cases xs <;> exact h.elim
theorem row_one {es : E} {x : Expr} (h : Row X Γ H0 c es [x]) : ∃ a, es = .cons a .nil ∧ PE X x (tE X.K Γ H0 c a) ∧ noStar x = true := by
  cases es with
  | cons a b =>
    obtain ⟨h1, h2, h3⟩ := h
    cases b with
    | nil => exact ⟨a, rfl, h1, h2⟩
    | _ => exact h3.elim
  | _ => exact h.elim
theorem row_two {es : E} {x y : Expr} (h : Row X Γ H0 c es [x, y]) : ∃ a b, es = .cons a (.cons b .nil) ∧ PE X x (tE X.K Γ H0 c a) ∧ noStar x = true ∧ PE X y (tE X.K Γ H0 c b) ∧ noStar y = true := by
  cases es with
  | cons a b =>
    obtain ⟨h1, h2, h3⟩ := h
    obtain ⟨b', rfl, h4, h5⟩ := row_one h3
    exact ⟨a, b', rfl, h1, h2, h4, h5⟩
  | _ => exact h.elim
end
end Pu
set_option Elab.async false
set_option maxRecDepth 100000
set_option maxHeartbeats 8000000
set_option linter.all false
/-! P10: every term that agrees with the text is read right. -/
namespace Pu
open PySem PySem.Spec PyProof.Rows L2

section
variable {C : Cks} {c : Cf} {k : Nat} {Γ : Gh} {H0 : Hp}
abbrev Sd (C : Cks) (c : Cf) (k : Nat) (Γ : Gh) (H0 : Hp) (e : E) : Prop := ∀ (X : Cx) (sc : Scope) (s : Src), Ok C c k X sc → ck C e sc s = true → Snd X Γ H0 c e s
theorem sd_t {e : E} {X : Cx} {sc : Scope} {x : Expr} (ih : Sd C c k Γ H0 e) (o : Ok C c k X sc) (h : (ck C e sc (.t x) || (plainT x && ck C e sc (.e x))) = true) : PT X x (tT X.K Γ H0 c e) := by
  rw [Bool.or_eq_true, Bool.and_eq_true] at h
  rcases h with h | ⟨h1, h2⟩
  · exact ih X sc (.t x) o h
  · exact s_tru (ih X sc (.e x) o h2) (plainT_ok h1 X.env)
theorem sd_i {e : E} {X : Cx} {sc : Scope} {x : Expr} (ih : Sd C c k Γ H0 e) (o : Ok C c k X sc) (h : (ck C e sc (.i x) || (noSet x && ck C e sc (.e x))) = true) : (∀ tg, PI X tg x (tIr X.K Γ H0 c e) ∧ PI X tg x (tIf X.K Γ H0 c e)) ∧ noSet x = true := by
  rw [Bool.or_eq_true, Bool.and_eq_true] at h
  rcases h with h | ⟨h1, h2⟩
  · exact ih X sc (.i x) o h
  · exact ⟨fun tg => ⟨s_itR (ih X sc (.e x) o h2), s_itF (ih X sc (.e x) o h2)⟩, h1⟩
theorem sd_o {e : E} {X : Cx} {sc : Scope} {l : Option Expr} (ih : Sd C c k Γ H0 e) (o : Ok C c k X sc) (h : (match l with
    | none => e.isNil
    | some y => !e.isNil && ck C e sc (.e y)) = true) : PO X l (tO X.K Γ H0 c e) := by
  cases l with
  | none =>
    cases e <;> first | (cases h; done) | exact s_on
  | some y =>
    rw [Bool.and_eq_true] at h
    exact s_os (bnot h.1) (ih X sc (.e y) o h.2)
theorem sm_nil {e : E} (h : e.isNil = true) : e = .nil := by cases e <;> first | rfl | cases h

theorem d_nil : Sd C c k Γ H0 .nil := by
  intro X sc s o h
  cases s with
  | a xs => cases xs <;> first | exact True.intro | cases h
  | d ks vs => cases ks <;> cases vs <;> first | exact (fun pos => pps_nil) | cases h
  | _ => cases h
theorem d_cons {a b : E} (ha : Sd C c k Γ H0 a) (hb : Sd C c k Γ H0 b) : Sd C c k Γ H0 (.cons a b) := by
  intro X sc s o h
  cases s with
  | a xs =>
    cases xs with
    | nil => cases h
    | cons x xs =>
      simp only [ck, Bool.and_eq_true] at h
      exact ⟨ha X sc _ o h.2.1, h.1, hb X sc (.a xs) o h.2.2⟩
  | d ks vs =>
    cases ks with
    | nil => cases h
    | cons q ks =>
      cases q with
      | none => cases h
      | some q =>
        cases vs with
        | nil => cases h
        | cons v vs =>
          simp only [ck, Bool.and_eq_true] at h
          intro pos
          have h2 := hb X sc (.d2 v ks vs) o h.2 pos q _ (s_share (ha X sc (.e q) o h.1))
          cases b <;> exact h2
  | d2 v ks vs =>
    simp only [ck, Bool.and_eq_true] at h
    intro pos q tk hq
    exact pps_cons hq (s_share (ha X sc (.e v) o h.1)) (hb X sc (.d ks vs) o h.2 pos)
  | _ => cases h
theorem d_nm {i : Nat} : Sd C c k Γ H0 (.nm i) := by
  intro X sc s o h
  cases s <;> try (cases h; done)
  rename_i x
  cases x <;> try (cases h; done)
  exact s_nm (o.var h)
theorem d_int {i : Int} : Sd C c k Γ H0 (.int i) := by
  intro X sc s o h
  simp only [ck] at h
  split at h
  · rw [decide_eq_true_eq] at h; subst h; exact s_int
  · cases h
theorem d_str {i : Str} : Sd C c k Γ H0 (.str i) := by
  intro X sc s o h
  simp only [ck] at h
  split at h
  · rw [decide_eq_true_eq] at h; subst h; exact s_str
  · cases h
theorem d_bl {i : Bool} : Sd C c k Γ H0 (.bl i) := by
  intro X sc s o h
  simp only [ck] at h
  split at h
  · rw [decide_eq_true_eq] at h; subst h; exact s_bl
  · cases h
theorem d_non : Sd C c k Γ H0 .non := by
  intro X sc s o h
  simp only [ck] at h
  split at h
  · exact s_non
  · cases h
theorem d_gl {x : Str} : Sd C c k Γ H0 (.gl x) := by
  intro X sc s o h
  simp only [ck] at h
  split at h
  · simp only [Bool.and_eq_true, decide_eq_true_eq] at h
    obtain ⟨rfl, h1, h2, h3⟩ := h
    obtain ⟨u, v, d, k1, k2, k3, k4⟩ := o.cst _ h2
    exact s_gl (o.gl h1) k1 k2 k3 k4 (bnot h3)
  · cases h
theorem d_tu {es : E} (ih : Sd C c k Γ H0 es) : Sd C c k Γ H0 (.tu es) := by
  intro X sc s o h
  simp only [ck] at h
  split at h
  · simp only [Bool.and_eq_true, decide_eq_true_eq] at h
    obtain ⟨r1, r2, r3, r4, r5, r6⟩ := row_facts (ih X sc _ o h.1)
    refine s_tu r1 (fun ρ g ds g' he => ?_) fun ρ g r g' he => ?_
    · obtain ⟨es', e, hl⟩ := ev_row r4 he
      cases e
      rw [hl, r5, sizeLine_eq]; omega
    · obtain ⟨es', e, hl⟩ := ev_row r4 he
      exact ⟨es', e⟩
  · cases h
theorem li_of {es : E} {X : Cx} {xs : List Expr} {pos : Pos} (r : Row X Γ H0 c es xs) (h : xs.length ≤ 1000) : PE X (.List xs pos) (tE X.K Γ H0 c (.li es)) := by
  obtain ⟨r1, r2, r3, r4, r5, r6⟩ := row_facts r
  refine s_li r1 fun ρ g ds g' he => ?_
  obtain ⟨es', e, hl⟩ := ev_row r4 he
  cases e
  rw [hl, r5, sizeLine_eq]; omega
theorem d_li {es : E} (ih : Sd C c k Γ H0 es) : Sd C c k Γ H0 (.li es) := by
  intro X sc s o h
  simp only [ck] at h
  split at h
  · simp only [Bool.and_eq_true, decide_eq_true_eq] at h
    exact li_of (ih X sc _ o h.1) h.2
  · cases h
theorem d_rp {es a : E} (ih : Sd C c k Γ H0 es) (ha : Sd C c k Γ H0 a) : Sd C c k Γ H0 (.rp es a) := by
  intro X sc s o h
  simp only [ck] at h
  split at h
  · simp only [Bool.and_eq_true, decide_eq_true_eq] at h
    exact s_rp (li_of (ih X sc _ o h.1) h.2.1) (ha X sc _ o h.2.2)
  · cases h
theorem d_di {es : E} (ih : Sd C c k Γ H0 es) : Sd C c k Γ H0 (.di es) := by
  intro X sc s o h
  simp only [ck] at h
  split at h
  · simp only [Bool.and_eq_true, decide_eq_true_eq] at h
    obtain ⟨h1, h2, h3, h4, h5, h6, h7⟩ := h
    exact s_di (ih X sc _ o h1 _) h2 h3 h4 h5 (by rintro rfl; cases h6) h7
  · cases h
theorem d_bi {op : BOp} {a b : E} (ha : Sd C c k Γ H0 a) (hb : Sd C c k Γ H0 b) : Sd C c k Γ H0 (.bi op a b) := by
  intro X sc s o h
  simp only [ck] at h
  split at h
  · simp only [Bool.and_eq_true, decide_eq_true_eq] at h
    obtain ⟨rfl, h1, h2⟩ := h
    exact s_bi (ha X sc _ o h1) (hb X sc _ o h2)
  · cases h
theorem d_neg {a : E} (ha : Sd C c k Γ H0 a) : Sd C c k Γ H0 (.neg a) := by
  intro X sc s o h
  simp only [ck] at h
  split at h
  · exact s_neg (ha X sc _ o h)
  · cases h
theorem d_cm {op : COp} {a b : E} (ha : Sd C c k Γ H0 a) (hb : Sd C c k Γ H0 b) : Sd C c k Γ H0 (.cm op a b) := by
  intro X sc s o h
  simp only [ck] at h
  split at h
  · simp only [Bool.and_eq_true, decide_eq_true_eq] at h
    obtain ⟨rfl, h1, h2, h3⟩ := h
    exact s_cm o.units (ha X sc _ o h2) (hb X sc _ o h3) (bnot h1)
  · simp only [Bool.and_eq_true, decide_eq_true_eq] at h
    obtain ⟨rfl, h1, h2, h3⟩ := h
    exact s_cmT o.units (ha X sc _ o h2) (hb X sc _ o h3) (bnot h1)
  · cases h
theorem d_ch {o1 o2 : COp} {a b d : E} (ha : Sd C c k Γ H0 a) (hb : Sd C c k Γ H0 b) (hd : Sd C c k Γ H0 d) : Sd C c k Γ H0 (.ch o1 o2 a b d) := by
  intro X sc s o h
  simp only [ck] at h
  split at h
  · simp only [Bool.and_eq_true, decide_eq_true_eq] at h
    obtain ⟨rfl, rfl, h1, h2, h3, h4⟩ := h
    exact s_ch o.units (ha X sc _ o h2) (hb X sc _ o h3) (hd X sc _ o h4) (bnot h1)
  · simp only [Bool.and_eq_true, decide_eq_true_eq] at h
    obtain ⟨rfl, rfl, h1, h2, h3, h4⟩ := h
    exact s_chT o.units (ha X sc _ o h2) (hb X sc _ o h3) (hd X sc _ o h4) (bnot h1)
  · cases h
theorem w_an {a b : E} {X : Cx} {sc : Scope} {x y : Expr} {r : List Expr} {p : Pos} (ha : Sd C c k Γ H0 a) (hb : Sd C c k Γ H0 b) (o : Ok C c k X sc) (h : ((ck C a sc (.t x) || (plainT x && ck C a sc (.e x))) && (match r with
      | [] => ck C b sc (.t y) || (plainT y && ck C b sc (.e y))
      | z :: r => ck C b sc (.w (.BoolOp .And (y :: z :: r) p)))) = true) : PW X (.BoolOp .And (x :: y :: r) p) (tT X.K Γ H0 c (.an a b)) := by
  rw [Bool.and_eq_true] at h
  refine s_anT (sd_t ha o h.1) ?_
  cases r with
  | nil => exact pw_and1 (sd_t hb o h.2)
  | cons z r => exact hb X sc (.w _) o h.2
theorem w_or {a b : E} {X : Cx} {sc : Scope} {x y : Expr} {r : List Expr} {p : Pos} (ha : Sd C c k Γ H0 a) (hb : Sd C c k Γ H0 b) (o : Ok C c k X sc) (h : ((ck C a sc (.t x) || (plainT x && ck C a sc (.e x))) && (match r with
      | [] => ck C b sc (.t y) || (plainT y && ck C b sc (.e y))
      | z :: r => ck C b sc (.w (.BoolOp .Or (y :: z :: r) p)))) = true) : PW X (.BoolOp .Or (x :: y :: r) p) (tT X.K Γ H0 c (.or a b)) := by
  rw [Bool.and_eq_true] at h
  refine s_orT (sd_t ha o h.1) ?_
  cases r with
  | nil => exact pw_or1 (sd_t hb o h.2)
  | cons z r => exact hb X sc (.w _) o h.2
theorem d_an {a b : E} (ha : Sd C c k Γ H0 a) (hb : Sd C c k Γ H0 b) : Sd C c k Γ H0 (.an a b) := by
  intro X sc s o h
  simp only [ck] at h
  split at h
  · rw [Bool.and_eq_true] at h
    refine s_an (ha X sc _ o h.1) ?_
    have h2 := h.2
    split at h2
    · exact pe_solo (hb X sc _ o h2)
    · exact hb X sc _ o h2
  · exact (w_an ha hb o h).pt
  · exact w_an ha hb o h
  · cases h
theorem d_or {a b : E} (ha : Sd C c k Γ H0 a) (hb : Sd C c k Γ H0 b) : Sd C c k Γ H0 (.or a b) := by
  intro X sc s o h
  simp only [ck] at h
  split at h
  · rw [Bool.and_eq_true] at h
    refine s_or (ha X sc _ o h.1) ?_
    have h2 := h.2
    split at h2
    · exact pe_solo (hb X sc _ o h2)
    · exact hb X sc _ o h2
  · exact (w_or ha hb o h).pt
  · exact w_or ha hb o h
  · cases h
theorem d_no {a : E} (ha : Sd C c k Γ H0 a) : Sd C c k Γ H0 (.no a) := by
  intro X sc s o h
  simp only [ck] at h
  split at h
  · exact s_no (ha X sc _ o h)
  · exact s_noT (sd_t ha o h)
  · cases h
theorem d_ie {t a b : E} (ht : Sd C c k Γ H0 t) (ha : Sd C c k Γ H0 a) (hb : Sd C c k Γ H0 b) : Sd C c k Γ H0 (.ie t a b) := by
  intro X sc s o h
  simp only [ck] at h
  split at h
  · rw [Bool.and_eq_true, Bool.and_eq_true] at h
    exact s_ie (sd_t ht o h.1) (ha X sc _ o h.2.1) (hb X sc _ o h.2.2)
  · cases h
theorem d_ix {a b : E} (ha : Sd C c k Γ H0 a) (hb : Sd C c k Γ H0 b) : Sd C c k Γ H0 (.ix a b) := by
  intro X sc s o h
  simp only [ck] at h
  split at h
  · rw [Bool.and_eq_true, Bool.and_eq_true] at h
    exact s_ix o.units (ha X sc _ o h.2.1) (hb X sc _ o h.2.2) h.1
  · cases h
theorem d_sl {a lo hi : E} (ha : Sd C c k Γ H0 a) (hlo : Sd C c k Γ H0 lo) (hhi : Sd C c k Γ H0 hi) : Sd C c k Γ H0 (.sl a lo hi) := by
  intro X sc s o h
  simp only [ck] at h
  split at h
  · rw [Bool.and_eq_true, Bool.and_eq_true] at h
    exact s_sl (ha X sc _ o h.1) (sd_o hlo o h.2.1) (sd_o hhi o h.2.2)
  · cases h
theorem d_ca {f : Str} {gi : Option Nat} {es : E} (ih : Sd C c k Γ H0 es) : Sd C c k Γ H0 (.ca f gi es) := by
  intro X sc s o h
  simp only [ck] at h
  split at h
  · simp only [Bool.and_eq_true, decide_eq_true_eq] at h
    obtain ⟨rfl, h1, h2, h3⟩ := h
    cases gi with
    | none =>
      simp only [Bool.and_eq_true, decide_eq_true_eq] at h3
      obtain ⟨r1, r2, r3, r4, r5, r6⟩ := row_facts (ih X sc _ o h3.2)
      exact s_ca (o.fn _ _ _ h3.1) o.room (o.gl h1) r4 r1 r6 (bnot h2)
    | some i =>
      simp only [Bool.and_eq_true, decide_eq_true_eq] at h3
      obtain ⟨h4, h5, h6⟩ := h3
      split at h4
      · obtain ⟨r1, r2, r3, r4, r5, r6⟩ := row_facts (ih X sc _ o h6)
        exact s_caG (o.fn _ _ _ h5) o.room (o.gl h1) r4 (o.var h4) r1 r6 (bnot h2)
      · cases h4
  · cases h
theorem d_bf {f : Bf} {es : E} (ih : Sd C c k Γ H0 es) : Sd C c k Γ H0 (.bf f es) := by
  intro X sc s o h
  simp only [ck] at h
  split at h
  · simp only [Bool.and_eq_true, decide_eq_true_eq] at h
    obtain ⟨rfl, h1, h2⟩ := h
    obtain ⟨r1, r2, r3, r4, r5, r6⟩ := row_facts (ih X sc _ o h2)
    exact s_bf o h1 r2 r6
  · cases h
theorem d_me {m : Me} {v es : E} (hv : Sd C c k Γ H0 v) (ih : Sd C c k Γ H0 es) : Sd C c k Γ H0 (.me m v es) := by
  intro X sc s o h
  simp only [ck] at h
  split at h
  · rename_i x n apos ys cpos
    simp only [Bool.and_eq_true, decide_eq_true_eq, Bool.or_eq_true] at h
    obtain ⟨h0, rfl, h1, h2, h3, h4, h5⟩ := h
    cases m <;> try (cases h0; done)
    have hu : X.A.units + 1 < cLine := by have := o.units; omega
    rcases h3 with h3 | h3
    · obtain ⟨y, rfl⟩ := List.length_eq_one_iff.mp h3
      obtain ⟨a, rfl, r1, r2⟩ := row_one (ih X sc _ o h5)
      exact s_get1 hu (hv X sc _ o h4) r1 h1 r2 h2
    · obtain ⟨y, z, rfl⟩ : ∃ y z, ys = [y, z] := by
        match ys, h3 with
        | [y, z], _ => exact ⟨y, z, rfl⟩
      obtain ⟨a, b, rfl, r1, r2, r3, r4⟩ := row_two (ih X sc _ o h5)
      exact s_get2 hu (hv X sc _ o h4) r1 r3 h1 r2 r4 h2
  · cases h
theorem d_isi {a : E} {t : Ty} (ha : Sd C c k Γ H0 a) : Sd C c k Γ H0 (.isi a t) := by
  intro X sc s o h
  simp only [ck] at h
  split at h
  · simp only [Bool.and_eq_true, decide_eq_true_eq] at h
    obtain ⟨rfl, rfl, h1, h2, h3, h4⟩ := h
    obtain ⟨n1, n2, n3, n4⟩ := ty_name t
    exact s_isi (o.gl h1) (o.blt _ (by decide +kernel)) (o.gl h2) (o.blt _ n1) n4 (ha X sc _ o h4) h3 n2 n3
  · cases h
theorem d_r1 {a : E} (ha : Sd C c k Γ H0 a) : Sd C c k Γ H0 (.r1 a) := by
  intro X sc s o h
  simp only [ck] at h
  split at h
  · simp only [Bool.and_eq_true, decide_eq_true_eq] at h
    obtain ⟨rfl, h1, h2, h3⟩ := h
    have hm := o.blt "range" (by decide +kernel)
    exact ⟨fun tg => ⟨s_r1R (o.gl h1) hm (ha X sc _ o h3) h2, s_r1F (o.gl h1) hm (ha X sc _ o h3) h2⟩, rfl⟩
  · cases h
theorem d_r2 {a b : E} (ha : Sd C c k Γ H0 a) (hb : Sd C c k Γ H0 b) : Sd C c k Γ H0 (.r2 a b) := by
  intro X sc s o h
  simp only [ck] at h
  split at h
  · simp only [Bool.and_eq_true, decide_eq_true_eq] at h
    obtain ⟨rfl, h1, h2, h3, h4, h5⟩ := h
    have hm := o.blt "range" (by decide +kernel)
    exact ⟨fun tg => ⟨s_r2R (o.gl h1) hm (ha X sc _ o h4) (hb X sc _ o h5) h2 h3, s_r2F (o.gl h1) hm (ha X sc _ o h4) (hb X sc _ o h5) h2 h3⟩, rfl⟩
  · cases h
theorem d_l1 {a : E} (ha : Sd C c k Γ H0 a) : Sd C c k Γ H0 (.l1 a) := by
  intro X sc s o h
  simp only [ck] at h
  split at h
  · simp only [Bool.and_eq_true, decide_eq_true_eq] at h
    obtain ⟨rfl, rfl, h1, h2, h3, h4⟩ := h
    exact s_l1 o.calm (o.gl h2) (o.blt "range" (by decide +kernel)) (o.gl h1) (o.blt "list" (by decide +kernel)) (ha X sc _ o h4) h3
  · cases h
theorem d_lr {a b : E} (ha : Sd C c k Γ H0 a) (hb : Sd C c k Γ H0 b) : Sd C c k Γ H0 (.lr a b) := by
  intro X sc s o h
  simp only [ck] at h
  split at h
  · simp only [Bool.and_eq_true, decide_eq_true_eq] at h
    obtain ⟨rfl, rfl, h1, h2, h3, h4, h5, h6⟩ := h
    exact s_lr o.calm (o.gl h2) (o.blt "range" (by decide +kernel)) (o.gl h1) (o.blt "list" (by decide +kernel)) (ha X sc _ o h5) (hb X sc _ o h6) h3 h4
  · cases h
/-! comprehensions -/
theorem mapM_names : ∀ {es : List Expr} {xs : List Str}, es.mapM nameOf = some xs → ∃ ps : List Pos, ps.length = xs.length ∧ es = (xs.zip ps).map fun q => Expr.Name q.1 q.2
  | [], xs, h => by
    cases h
    exact ⟨[], rfl, rfl⟩
  | e :: es, xs, h => by
    simp only [List.mapM_cons, Option.bind_eq_bind, Option.bind_eq_some_iff] at h
    obtain ⟨x, hx, ys, hy, e'⟩ := h
    cases e'
    obtain ⟨ps, hl, rfl⟩ := mapM_names hy
    cases e <;> try (cases hx; done)
    rename_i y p
    cases hx
    exact ⟨p :: ps, by simp [hl], rfl⟩
theorem pg_nm (o : Ok C c k X sc) {i : Nat} {x : Str} {pos : Pos} (hi : C.N[i]? = some x) (hl : Loc X.env.scope x) (hf : X.fn x = true ∨ X.env.scope.names.lookup x = some .local) : PG X (.Name x pos) (gName i) :=
  pg_name (by rw [o.names]; exact o.nd) (by rw [o.names]; exact hi) hl hf
theorem assignEach_names {env : PySem.Env} : ∀ (l : List (Str × Pos)), assignEach (l.map fun q => Expr.Name q.1 q.2) env = l.map fun q => (false, assign (.Name q.1 q.2) env)
  | [] => rfl
  | q :: l => by
    show (false, assign (.Name q.1 q.2) env) :: assignEach (l.map fun q => Expr.Name q.1 q.2) env = _
    rw [assignEach_names l]
    rfl
theorem pgs_names (o : Ok C c k X sc) : ∀ {xs : List Str} {ps : List Pos} {is : List Nat}, xs.length = is.length → ps.length = xs.length → (∀ p ∈ xs.zip is, C.N[p.2]? = some p.1) → (∀ p ∈ xs.zip is, Loc X.env.scope p.1 ∧ (X.fn p.1 = true ∨ X.env.scope.names.lookup p.1 = some .local)) →
    PGs X ((xs.zip ps).map fun q => Expr.Name q.1 q.2) (gNames is)
  | [], _, [], _, _, _, _ => pgs_nil
  | x :: xs, p :: ps, i :: is, h1, h2, h3, h4 => pgs_cons (pg_nm o (h3 (x, i) (by simp)) (h4 (x, i) (by simp)).1 (h4 (x, i) (by simp)).2) (pgs_names o (by simpa using h1) (by simpa using h2) (fun q hq => h3 q (by simp [hq])) (fun q hq => h4 q (by simp [hq])))
  | [], _, _ :: _, h, _, _, _ => by simp at h
  | _ :: _, _, [], h, _, _, _ => by simp at h
  | _ :: _, [], _ :: _, _, h, _, _ => by simp at h
theorem tg_ok (o : Ok C c k X sc) {tg : Tg} {tgE : Expr} {own : List (Str × Nat)} (h : tgOwn tg tgE = some own) (h3 : ∀ p ∈ own, C.N[p.2]? = some p.1) (h4 : ∀ p ∈ own, Loc X.env.scope p.1 ∧ (X.fn p.1 = true ∨ X.env.scope.names.lookup p.1 = some .local)) :
    PG X tgE (tgG X.K tg) := by
  unfold tgOwn at h
  split at h
  · cases h
    exact pg_nm o (h3 _ List.mem_cons_self) (h4 _ List.mem_cons_self).1 (h4 _ List.mem_cons_self).2
  · simp only [Option.bind_eq_some_iff] at h
    obtain ⟨xs, hx, h⟩ := h
    split at h
    · rename_i hl
      cases h
      obtain ⟨ps, hps, rfl⟩ := mapM_names hx
      refine pg_tup o.calm (pgs_names o hl hps h3 h4) ?_ ?_
      · rw [assignEach_names, List.length_map, List.length_zip, hps, hl, Nat.min_self]
      · rw [assignEach_names, List.findIdx?_map]
        exact List.findIdx?_eq_none_iff.mpr fun _ _ => rfl
    · cases h
  · cases h
theorem own_slots {tg : Tg} {tgE : Expr} {own : List (Str × Nat)} (h : tgOwn tg tgE = some own) : own.map (·.2) = tg.slots := by
  unfold tgOwn at h
  split at h
  · cases h
    rfl
  · simp only [Option.bind_eq_some_iff] at h
    obtain ⟨xs, hx, h⟩ := h
    split at h
    · rename_i hl
      cases h
      show (List.zip xs _).map (·.2) = _
      rw [List.map_snd_zip (by omega)]
      rfl
    · cases h
  · cases h
theorem blk_loc {X : Cx} {s : Shared} {H : Hp} {scope : Scope} {D : Addr} {cl : List (Str × Addr)} {fp : List Addr} {x : Str} (h : locB scope x = true) :
    Loc (X.blk s H scope (compEnvC scope cl D X.env) fp).env.scope x ∧ ((X.blk s H scope (compEnvC scope cl D X.env) fp).fn x = true ∨ (X.blk s H scope (compEnvC scope cl D X.env) fp).env.scope.names.lookup x = some .local) := by
  have hs : (X.blk s H scope (compEnvC scope cl D X.env) fp).env.scope = relS scope X.env.scope := rfl
  rcases loc_of h with h | h
  · have e : (relS scope X.env.scope).names.lookup x = some .local := lookup_relS_keep (by decide) h
    exact ⟨.inl (by rw [hs]; exact e), .inr (by rw [hs]; exact e)⟩
  · have e : (relS scope X.env.scope).names.lookup x = some .cell := lookup_relS_keep (by decide) h
    refine ⟨.inr (by rw [hs]; exact e), .inl ?_⟩
    show (scope.names.lookup x == some NameKind.cell) = true
    rw [h]
    rfl
structure LcOk (C : Cks) (c : Cf) (X : Cx) (Γ : Gh) (H0 : Hp) (tg : Tg) (it t el : E) (elt tgE iter : Expr) (ifs : List Expr) (scope : Scope) (own : List (Str × Nat)) : Prop where
  it : PI X tgE iter (tIr X.K Γ H0 c it)
  ok : BlkOk X.N X.env.scope scope own
  tgt : ∀ (s : Shared) (H : Hp) (D : Addr) (cl : List (Str × Addr)) (fp : List Addr), PG (X.blk s H scope (compEnvC scope cl D X.env) fp) tgE (tgG X.K tg)
  tt : ∀ (s : Shared) (H : Hp) (D : Addr) (cl : List (Str × Addr)) (fp : List Addr), PTs (X.blk s H scope (compEnvC scope cl D X.env) fp) ifs (tT X.K Γ H0 c t)
  el : ∀ (s : Shared) (H : Hp) (D : Addr) (cl : List (Str × Addr)) (fp : List Addr), PE (X.blk s H scope (compEnvC scope cl D X.env) fp) elt (tD X.K Γ H0 c el)
  st : ∀ x, foldedSetIterable iter X.env x = pure x
  sl : own.map (·.2) = tg.slots
theorem lc_ok {tg : Tg} {it t el : E} {X : Cx} {sc scope : Scope} {elt tgE iter : Expr} {ifs : List Expr} {pos : Pos} (hi : Sd C c k Γ H0 it) (ht : Sd C c k Γ H0 t) (he : Sd C c k Γ H0 el) (o : Ok C c k X sc)
    (h : ck C (.lc tg it t el) sc (.e (.ListComp elt [⟨tgE, iter, ifs, 0⟩] scope pos)) = true) : ∃ own, LcOk C c X Γ H0 tg it t el elt tgE iter ifs scope own := by
  simp only [ck] at h
  rw [Bool.and_eq_true, Bool.and_eq_true, Bool.and_eq_true] at h
  obtain ⟨h1, h2, h3, h4⟩ := h
  obtain ⟨i1, i2⟩ := sd_i hi o h1
  split at h2
  · rename_i own hown
    rw [Bool.and_eq_true, List.all_eq_true] at h2
    have bo := blkOk_by h2.1
    refine ⟨own, (i1 tgE).1, by rw [o.names, o.scope]; exact bo, fun s H D cl fp => ?_, fun s H D cl fp => ?_, fun s H D cl fp => ?_, noSet_ok i2 _, own_slots hown⟩
    · exact tg_ok (o.blk (scope := scope) s H D cl fp) hown bo.ix fun p hp => blk_loc (h2.2 p hp)
    · split at h3
      · have : t = .bl true := by
          cases t <;> try (cases h3; done)
          rename_i b
          cases b <;> first | rfl | cases h3
        subst this
        exact s_pts0
      · exact pts_one (sd_t ht (o.blk (scope := scope) s H D cl fp) h3)
      · cases h3
    · exact s_share (he _ _ _ (o.blk (scope := scope) s H D cl fp) h4)
  · cases h2
theorem d_lc {tg : Tg} {it t el : E} (hi : Sd C c k Γ H0 it) (ht : Sd C c k Γ H0 t) (he : Sd C c k Γ H0 el) : Sd C c k Γ H0 (.lc tg it t el) := by
  intro X sc s o h
  have h0 := h
  simp only [ck] at h
  split at h
  · obtain ⟨own, L⟩ := lc_ok hi ht he o h0
    refine pe_weak (pe_lc o.calm (by rw [o.names]; exact o.nd) L.it L.ok L.tgt L.tt L.el L.st) fun σ H Q hq => ?_
    rw [L.sl]
    exact t_lc hq
  · cases h
theorem sound (C : Cks) (c : Cf) (k : Nat) (Γ : Gh) (H0 : Hp) (e : E) : Sd C c k Γ H0 e := by
  induction e with
  | nil => exact d_nil
  | cons a b ha hb => exact d_cons ha hb
  | nm i => exact d_nm
  | int i => exact d_int
  | str i => exact d_str
  | bl i => exact d_bl
  | non => exact d_non
  | gl x => exact d_gl
  | tu es ih => exact d_tu ih
  | li es ih => exact d_li ih
  | rp es a ih ha => exact d_rp ih ha
  | di es ih => exact d_di ih
  | bi op a b ha hb => exact d_bi ha hb
  | neg a ha => exact d_neg ha
  | cm op a b ha hb => exact d_cm ha hb
  | ch o1 o2 a b d ha hb hd => exact d_ch ha hb hd
  | an a b ha hb => exact d_an ha hb
  | or a b ha hb => exact d_or ha hb
  | no a ha => exact d_no ha
  | ie t a b ht ha hb => exact d_ie ht ha hb
  | ix a b ha hb => exact d_ix ha hb
  | sl a lo hi ha hlo hhi => exact d_sl ha hlo hhi
  | ca f gi es ih => exact d_ca ih
  | bf f es ih => exact d_bf ih
  | me m v es hv ih => exact d_me hv ih
  | isi a t ha => exact d_isi ha
  | r1 a ha => exact d_r1 ha
  | r2 a b ha hb => exact d_r2 ha hb
  | l1 a ha => exact d_l1 ha
  | lr a b ha hb => exact d_lr ha hb
  | lc tg it t el hi ht he => exact d_lc hi ht he
  | l2 tg it t tg2 it2 t2 el _ _ _ _ _ => intro X sc s o h; cases h
end
end Pu
set_option Elab.async false
set_option maxRecDepth 100000
set_option maxHeartbeats 8000000
set_option linter.all false
/-! P11: statements. -/
namespace Pu
open PySem PySem.Spec PyProof.Rows L2

structure OkS (C : Cks) (c : Cf) (k : Nat) (X : Cx) (sc : Scope) : Prop extends Ok C c k X sc where
  fnT : ∀ x, X.fn x = true
  xe : X.xe = fun _ _ => False
  kind : sc.kind = .function
def Fin (K : PySem.W.Frag) (Γ : Gh) (H0 H : Hp) (D : Ends) (o : Out) (ρ' : Env) (g' : G) : Prop := match o with
  | .nx => ∀ σ' H', Ext H H' → Pre K Γ H0 σ' H' ρ' g' → D.nx σ' H'
  | .br => ∀ σ' H', Ext H H' → Pre K Γ H0 σ' H' ρ' g' → D.bk σ' H'
  | .ct => ∀ σ' H', Ext H H' → Pre K Γ H0 σ' H' ρ' g' → D.ct σ' H'
  | .rt v => ∀ u H', Sm Γ H0 H' → GenOk Γ H' g' → NR K H0 H' u v → D.rt u H'
def tS (K : PySem.W.Frag) (Γ : Gh) (H0 : Hp) (c : Cf) (s : S) : TS := fun D σ H => ∃ ρ g o ρ' g', Pre K Γ H0 σ H ρ g ∧ ex c s ρ g = some (o, ρ', g') ∧ Fin K Γ H0 H D o ρ' g'
theorem Fin.ext {K : PySem.W.Frag} {Γ : Gh} {H0 H H1 : Hp} {D : Ends} {o : Out} {ρ' : Env} {g' : G} (e : Ext H H1) (f : Fin K Γ H0 H D o ρ' g') : Fin K Γ H0 H1 D o ρ' g' := by
  cases o with
  | nx => exact fun σ' H' e' p => f σ' H' (e.trans e') p
  | br => exact fun σ' H' e' p => f σ' H' (e.trans e') p
  | ct => exact fun σ' H' e' p => f σ' H' (e.trans e') p
  | rt v => exact f
theorem ps_weak {X : Cx} {st : Stmt} {t t' : TS} (h : PS X st t) (k : ∀ D σ H, t' D σ H → t D σ H) : PS X st t' := ⟨fun pins s σ H D I q => h.run pins s σ H D I (k D σ H q)⟩
theorem pss_weak {X : Cx} {st : List Stmt} {t t' : TS} (h : PSs X st t) (k : ∀ D σ H, t' D σ H → t D σ H) : PSs X st t' := ⟨fun pins s σ H D I q => h.run pins s σ H D I (k D σ H q)⟩

section
variable {C : Cks} {c : Cf} {k : Nat} {X : Cx} {sc : Scope} {Γ : Gh} {H0 : Hp} {pos : Pos}
/-! ### rows of statements -/
theorem s_pnop : PSs X [] (tS X.K Γ H0 c .nop) := pss_weak pss_nil fun D σ H hq => by
  obtain ⟨ρ, g, o, ρ', g', p, he, q⟩ := hq
  cases he
  exact q σ H (Ext.refl _) p
theorem s_seq {a b : S} {st : Stmt} {sts : List Stmt} (ha : PS X st (tS X.K Γ H0 c a)) (hb : PSs X sts (tS X.K Γ H0 c b)) : PSs X (st :: sts) (tS X.K Γ H0 c (.seq a b)) :=
  pss_weak (pss_cons ha hb) fun D σ H hq => by
    obtain ⟨ρ, g, o, ρ', g', p, he, q⟩ := hq
    simp only [ex, Option.bind_eq_bind, Option.bind_eq_some_iff] at he
    obtain ⟨⟨o1, ρ1, g1⟩, ea, he⟩ := he
    refine ⟨ρ, g, o1, ρ1, g1, p, ea, ?_⟩
    cases o1 with
    | nx => exact fun σ' H' e' p' => ⟨ρ1, g1, o, ρ', g', p', he, q.ext e'⟩
    | br => cases he; exact q
    | ct => cases he; exact q
    | rt v => cases he; exact q
theorem s_fz {i : Nat} {b : S} {sts : List Stmt} (hb : PSs X sts (tS X.K Γ H0 c b)) : PSs X sts (tS X.K Γ H0 c (.seq (.fz i) b)) := by
  refine ⟨fun pins s σ H D I hq => ?_⟩
  obtain ⟨ρ, g, o, ρ', g', p, he, q⟩ := hq
  simp only [ex, Option.bind_eq_bind, Option.bind_eq_some_iff] at he
  obtain ⟨⟨o1, ρ1, g1⟩, ea, he⟩ := he
  split at ea
  · rename_i xs hx
    cases ea
    obtain ⟨v, e1, a, vs, rfl, h1, h2, h3⟩ := p.env.get i _ hx
    obtain ⟨oo, I2⟩ := inv_freeze I h1
    have ex1 : Ext H (upd H a (.frz oo (.lst vs))) := upd_ext h1
    refine hb.run pins s σ _ D I2 ⟨_, g, o, ρ', g', ⟨⟨by rw [List.length_set]; exact p.env.len, fun j u hj => ?_, fun j1 j2 u w x hne hj1 hj2 o1 o2 => ?_⟩, ?_, ?_⟩, he, q.ext ex1⟩
    · rw [List.getElem?_set] at hj
      split at hj
      · rename_i hij
        subst hij
        split at hj
        · cases hj
          exact ⟨_, e1, .lst ⟨oo, upd_same⟩ (h2.mono ex1)⟩
        · cases hj
      · rename_i hij
        obtain ⟨w, k1, k2⟩ := p.env.get j u hj
        refine ⟨w, k1, ?_⟩
        have sep : u.own = true → w ≠ .ref a := fun ow z => p.env.sep i j _ _ _ hij hx hj rfl ow e1 (by rw [k1, z])
        cases u with
        | sh d => exact Rep.mono ex1 k2
        | ow ys =>
          obtain ⟨b, us, rfl, m1, m2, m3⟩ := k2
          have nb : b ≠ a := fun z => sep rfl (by rw [z])
          exact ⟨b, us, rfl, by rw [upd_ne nb]; exact m1, m2.mono ex1, m3⟩
        | od ys =>
          obtain ⟨b, us, rfl, m1, m2, m3⟩ := k2
          have nb : b ≠ a := fun z => sep rfl (by rw [z])
          exact ⟨b, us, rfl, by rw [upd_ne nb]; exact m1, m2.mono ex1, m3⟩
        | bw _ => exact k2
        | bd _ => exact k2
        | gen => exact k2
    · have back : ∀ {j : Nat} {u : Vl}, (ρ.set i (some (Vl.sh (.list xs))))[j]? = some (some u) → u.own = true → ρ[j]? = some (some u) := fun {j u} h ou => by
        rw [List.getElem?_set] at h
        split at h
        · split at h
          · cases h
            cases ou
          · cases h
        · exact h
      exact p.env.sep j1 j2 u w x hne (back hj1 o1) (back hj2 o2) o1 o2
    · exact ⟨by rw [upd_ne (Ne.symm h3.nga)]; exact p.gen.1, by rw [upd_ne (Ne.symm h3.ngb)]; exact p.gen.2.1, p.gen.2.2⟩
    · exact fun b u e n1 n2 => by
        rw [upd_ne (by intro z; rw [z, h3.new] at e; cases e)]
        exact p.old b u e n1 n2
  · cases ea
    exact hb.run pins s σ H D I ⟨ρ, g, o, ρ', g', p, he, q⟩

/-! ### into slots -/
theorem VR.slot {K : PySem.W.Frag} {Hs H : Hp} {v : V} {u : Vl} (h : VR K Γ H0 Hs H v u) (k : u.keep = some u) : SR K Γ H0 H v u := by
  cases u with
  | sh d => exact h
  | ow xs => obtain ⟨a, vs, e, h1, h2, h3, _⟩ := h; exact ⟨a, vs, e, h1, h2, h3⟩
  | od xs => obtain ⟨a, vs, e, h1, h2, h3, _⟩ := h; exact ⟨a, vs, e, h1, h2, h3⟩
  | bw _ => cases k
  | bd _ => cases k
  | gen => cases k
theorem SR.at_ {K : PySem.W.Frag} {H : Hp} {v : V} {u : Vl} (h : SR K Γ H0 H v u) (o : u.own = true) : ∃ a x, v = .ref a ∧ H a = some x := by
  cases u with
  | ow xs => obtain ⟨a, vs, e, h1, _⟩ := h; exact ⟨a, _, e, h1⟩
  | od xs => obtain ⟨a, vs, e, h1, _⟩ := h; exact ⟨a, _, e, h1⟩
  | _ => cases o
/-- a fresh own thing stands in no slot -/
theorem fresh_sep {K : PySem.W.Frag} {σ : L2.St} {H : Hp} {ρ : Env} {g : G} {Hs : Hp} {v : V} {u : Vl} {H1 : Hp} (p : Pre K Γ H0 σ H ρ g) (h : VR K Γ H0 H H1 v u) (o : u.own = true) : ∀ (j : Nat) (w : Vl), ρ[j]? = some (some w) → w.own = true → σ[j]? ≠ some (some v) := by
  intro j w hj ow e
  obtain ⟨a, x, e1, _, e2⟩ := h.at_ o
  obtain ⟨z, k1, k2⟩ := p.env.get j w hj
  rw [k1] at e
  cases e
  obtain ⟨b, y, e3, e4⟩ := k2.at_ ow
  rw [e1] at e3
  cases e3
  rw [e2] at e4
  cases e4
theorem Post.slot {σ : L2.St} {H : Hp} {ρ : Env} {g g' : G} {u : Vl} {v : V} {H1 : Hp} {K : PySem.W.Frag} (p : Pre K Γ H0 σ H ρ g) (po : Post K Γ H0 H u g' v H1) (hk : u.keep = some u) (i : Nat) : Pre K Γ H0 (σ.set i (some v)) H1 (ρ.set i (some u)) g' :=
  ⟨(p.env.sm po.sm p.gen).set (po.val.slot hk) fun ow j w _ hj ow2 => fresh_sep (Hs := H) p po.val ow j w hj ow2, po.gen, p.old.trans po.sm⟩
theorem t_as {i : Nat} {e : E} {D : Ends} {σ : L2.St} {H : Hp} (hq : tS X.K Γ H0 c (.as_ i e) D σ H) : tE X.K Γ H0 c e σ H fun x H1 => D.nx (σ.set i (some x)) H1 := by
  obtain ⟨ρ, g, o, ρ', g', p, he, q⟩ := hq
  simp only [ex, Option.bind_eq_bind, Option.bind_eq_some_iff] at he
  obtain ⟨⟨u, g1⟩, ea, w, hw, he⟩ := he
  cases keep_same hw
  cases he
  exact ⟨ρ, g, u, _, p, ea, fun v H1 po => q _ _ (po.sm.ext p.gen) (po.slot p hw i)⟩
theorem s_as (o : OkS C c k X sc) {i : Nat} {e : E} {x : Str} {v : Expr} {p0 : Pos} (hi : C.N[i]? = some x) (hx : locB sc x = true) (he : PE X v (tE X.K Γ H0 c e)) (hs : swapsWith v (some (.Name x p0)) pos.line X.env = pure false) :
    PS X (.Assign [.Name x p0] v pos) (tS X.K Γ H0 c (.as_ i e)) :=
  ps_weak (ps_set (by rw [o.names]; exact o.nd) (by rw [o.names]; exact hi) (by rw [o.scope]; exact loc_of hx) he hs (.inl (o.fnT x))) fun D σ H hq => t_as hq
theorem s_asLc (o : OkS C c k X sc) {i : Nat} {tg : Tg} {it t el : E} {x : Str} {elt tgE iter : Expr} {ifs : List Expr} {scope : Scope} {own : List (Str × Nat)} {p0 p1 : Pos} (hi : C.N[i]? = some x) (hx : sc.names.lookup x = some .local)
    (L : LcOk C c X Γ H0 tg it t el elt tgE iter ifs scope own) (hs : swapsWith (.ListComp elt [⟨tgE, iter, ifs, 0⟩] scope p1) (some (.Name x p0)) pos.line X.env = pure true) :
    PS X (.Assign [.Name x p0] (.ListComp elt [⟨tgE, iter, ifs, 0⟩] scope p1) pos) (tS X.K Γ H0 c (.as_ i (.lc tg it t el))) :=
  ps_weak (ps_setLc o.calm (by rw [o.names]; exact o.nd) (by rw [o.names]; exact hi) (by rw [o.scope]; exact hx) hs L.it L.ok L.tgt L.tt L.el L.st) fun D σ H hq => by
    have h := t_as hq
    show tLc _ _ _ _ _ _ _ _
    rw [L.sl]
    exact t_lc h
/-! several at once -/
def setAllV (σ : L2.St) : List Nat → List V → L2.St
  | i :: is, v :: vs => setAllV (σ.set i (some v)) is vs
  | _, _ => σ
theorem evP_keep {c : Cf} : ∀ {es : E} {ρ : Env} {g g' : G} {us : List Vl}, evP c es ρ g = some (us, g') → ∀ (l : Nat) u, us[l]? = some u → u.keep = some u
  | .nil, ρ, g, g', us, h, l, u, hu => by cases h; simp at hu
  | .cons a b, ρ, g, g', us, h, l, u, hu => by
    simp only [evP, Option.bind_eq_bind, Option.bind_eq_some_iff] at h
    obtain ⟨⟨va, g1⟩, ea, d, hd, ⟨ws, g2⟩, eb, he⟩ := h
    cases he
    cases keep_same hd
    cases l with
    | zero => simp at hu; subst hu; exact hd
    | succ l => exact evP_keep eb l u (by simpa using hu)
theorem set_all {K : PySem.W.Frag} {Hs H : Hp} : ∀ {is : List Nat} {vs : List V} {us : List Vl} {σ : L2.St} {ρ : Env}, VRs K Γ H0 Hs H vs us → (∀ (l : Nat) u, us[l]? = some u → u.keep = some u) → EnvR K Γ H0 H σ ρ →
    (∀ (j : Nat) w x, ρ[j]? = some (some w) → w.own = true → σ[j]? = some (some x) → ∀ (l : Nat) u, us[l]? = some u → u.own = true → vs[l]? ≠ some x) → EnvR K Γ H0 H (setAllV σ is vs) (setAll ρ is us)
  | [], vs, us, σ, ρ, _, _, e, _ => by cases vs <;> cases us <;> exact e
  | i :: is, _, _, σ, ρ, .nil, _, e, _ => e
  | i :: is, _, _, σ, ρ, .cons (v := v) (vs := vs) (u := u) (us := us) h d r, hk, e, hs => by
    show EnvR K Γ H0 H (setAllV (σ.set i (some v)) is vs) (setAll (ρ.set i (some u)) is us)
    refine set_all r (fun l w hl => hk (l + 1) w (by simpa using hl)) (e.set (h.slot (hk 0 u rfl)) fun ow j w hne hj ow2 he => hs j w v hj ow2 he 0 u rfl ow rfl) fun j w x hj ow hx l u2 hl ow2 hv => ?_
    rw [List.getElem?_set] at hj hx
    split at hj
    · rename_i hij
      rw [if_pos hij] at hx
      split at hj
      · cases hj
        split at hx
        · cases hx
          exact d l u2 hl ow ow2 hv
        · cases hx
      · cases hj
    · rename_i hij
      rw [if_neg hij] at hx
      exact hs j w x hj ow hx (l + 1) u2 (by simpa using hl) ow2 (by simpa using hv)
theorem t_par {is : List Nat} {es : E} {D : Ends} {σ : L2.St} {H : Hp} (hq : tS X.K Γ H0 c (.par is es) D σ H) : tP X.K Γ H0 c es σ H fun vs H1 => vs.length = is.length ∧ ∀ H2, Same H1 H2 → D.nx (setAllV σ is vs) H2 := by
  obtain ⟨ρ, g, o, ρ', g', p, he, q⟩ := hq
  simp only [ex, Option.bind_eq_bind, Option.bind_eq_some_iff] at he
  obtain ⟨⟨us, g1⟩, ea, he⟩ := he
  split at he
  · rename_i hl
    cases he
    refine ⟨ρ, g, us, _, p, ea, fun vs H1 sm1 go1 r1 => ⟨by rw [r1.length]; exact hl, fun H2 s2 => ?_⟩⟩
    have e1 : EnvR X.K Γ H0 H1 (setAllV σ is vs) (setAll ρ is us) := by
      refine set_all r1 (evP_keep ea) (p.env.sm sm1 p.gen) fun j w x hj ow hx l u hl ou hv => ?_
      obtain ⟨z, hz, rz⟩ := r1.get hl
      rw [hz] at hv
      cases hv
      exact fresh_sep (Hs := H) p rz ou j w hj ow hx
    exact q _ _ ((sm1.ext p.gen).trans (same_ext s2)) ⟨e1.sm (same_sm s2 Γ) go1, go1.same s2, (p.old.trans sm1).trans (same_sm s2 Γ)⟩
  · cases he
theorem gNames_set : ∀ {is : List Nat} {vs : List V} {σ : L2.St} {H : Hp} {Q : L2.St → Hp → Prop}, vs.length = is.length → Q (setAllV σ is vs) H → gNames is vs σ H Q
  | [], [], _, _, _, _, q => ⟨rfl, q⟩
  | i :: is, v :: vs, σ, H, Q, hl, q => ⟨v, vs, rfl, gNames_set (by simpa using hl) q⟩
  | [], _ :: _, _, _, _, hl, _ => by simp at hl
  | _ :: _, [], _, _, _, hl, _ => by simp at hl
def isStarB : Expr → Bool
  | .Starred .. => true
  | _ => false
def nmLoc (sc : Scope) (line : Nat) : Expr → Option Str
  | .Name id pos => if sc.names.lookup id == some .local && pos.line == line then some id else none
  | _ => none
def swapD (sc : Scope) (ts vs : List Expr) : Option (Option (List Str)) :=
  if (!(ts.length == 2 || ts.length == 3) || vs.length != ts.length) = true then some none
  else if vs.any isStarB then some none
  else if ((ts.filterMap (nmLoc sc ((ts.head?.map (·.pos.line)).getD 0))).length != ts.length || (ts.filterMap (nmLoc sc ((ts.head?.map (·.pos.line)).getD 0))).eraseDups.length != (ts.filterMap (nmLoc sc ((ts.head?.map (·.pos.line)).getD 0))).length) then some none
  else if vs.all (foldedForSure 8) then some none
  else if vs.all (constantsAlone 8) then none
  else some (some (ts.filterMap (nmLoc sc ((ts.head?.map (·.pos.line)).getD 0))))
theorem swapD_ok {env : PySem.Env} {ts vs : List Expr} {k1 k2 : Nat} {p1 p2 : Pos} {r : Option (List Str)} (hs : env.scope = sc) (hk : sc.kind = .function) (h : swapD sc ts vs = some r) : swappedStores [.Tuple ts k1 p1] (.Tuple vs k2 p2) env = pure r := by
  have hb : (env.blockKind != .function) = false := by unfold Env.blockKind; rw [hs, hk]; rfl
  subst hs
  unfold swapD at h
  unfold swappedStores
  dsimp only
  rw [hb, Bool.or_false]
  change (if (!(ts.length == 2 || ts.length == 3) || vs.length != ts.length) = true then pure none
    else if (vs.any isStarB) = true then pure none
    else if ((ts.filterMap (nmLoc env.scope ((ts.head?.map (·.pos.line)).getD 0))).length != ts.length || (ts.filterMap (nmLoc env.scope ((ts.head?.map (·.pos.line)).getD 0))).eraseDups.length != (ts.filterMap (nmLoc env.scope ((ts.head?.map (·.pos.line)).getD 0))).length) = true then pure none
    else if (vs.all (foldedForSure 8)) = true then pure none
    else (do
      if (vs.all (constantsAlone 8)) = true then unsupported "assign.tuple-of-constant-expressions:order-of-the-stores"
      pure (some (ts.filterMap (nmLoc env.scope ((ts.head?.map (fun (e : Expr) => e.pos.line)).getD 0)))))) = pure r
  split at h
  · rename_i z
    cases h
    rw [if_pos z]
  · rename_i z
    rw [if_neg z]
    split at h
    · rename_i z
      cases h
      rw [if_pos z]
    · rename_i z
      rw [if_neg z]
      split at h
      · rename_i z
        cases h
        rw [if_pos z]
      · rename_i z
        rw [if_neg z]
        split at h
        · rename_i z
          cases h
          rw [if_pos z]
        · rename_i z
          rw [if_neg z]
          split at h
          · cases h
          · rename_i z
            cases h
            rw [if_neg z]
end
end Pu
set_option Elab.async false
set_option maxRecDepth 100000
set_option maxHeartbeats 8000000
set_option linter.all false
/-! P12: statements, to the end. -/
namespace Pu
open PySem PySem.Spec PyProof.Rows L2

section
variable {C : Cks} {c : Cf} {k : Nat} {X : Cx} {sc : Scope} {Γ : Gh} {H0 : Hp} {pos : Pos}
theorem s_par2 (o : OkS C c k X sc) {i j : Nat} {es : E} {x y : Str} {a b : Expr} {px py pt pt2 : Pos} {kt k2 : Nat} (hi : C.N[i]? = some x) (hj : C.N[j]? = some y) (hij : i ≠ j) (hx : sc.names.lookup x = some .local) (hy : sc.names.lookup y = some .local)
    (ha : PA X [a, b] (tP X.K Γ H0 c es)) (hw : swapD sc [.Name x px, .Name y py] [a, b] = some (some [x, y])) : PS X (.Assign [.Tuple [.Name x px, .Name y py] kt pt] (.Tuple [a, b] k2 pt2) pos) (tS X.K Γ H0 c (.par [i, j] es)) :=
  ps_weak (ps_par o.calm (by rw [o.names]; exact o.nd) (by rw [o.names]; exact hi) (by rw [o.names]; exact hj) hij (by rw [o.scope]; exact hx) (by rw [o.scope]; exact hy) ha (swapD_ok o.scope o.kind hw)) fun D σ H hq => by
    obtain ⟨ρ, g, us, g', p, he, q⟩ := t_par hq
    refine ⟨ρ, g, us, g', p, he, fun vs H1 s1 g1 r1 => ?_⟩
    obtain ⟨hl, q2⟩ := q vs H1 s1 g1 r1
    match vs, hl with
    | [v, w], _ => exact ⟨v, w, rfl, q2 H1 fun _ _ z => z⟩
theorem s_par3 (o : OkS C c k X sc) {i j l : Nat} {es : E} {x y z : Str} {a b d : Expr} {px py pz pt pt2 : Pos} {kt k2 : Nat} (hi : C.N[i]? = some x) (hj : C.N[j]? = some y) (hl : C.N[l]? = some z) (hij : i ≠ j) (hil : i ≠ l) (hjl : j ≠ l)
    (hx : sc.names.lookup x = some .local) (hy : sc.names.lookup y = some .local) (hz : sc.names.lookup z = some .local)
    (ha : PA X [a, b, d] (tP X.K Γ H0 c es)) (hw : swapD sc [.Name x px, .Name y py, .Name z pz] [a, b, d] = some (some [x, y, z])) : PS X (.Assign [.Tuple [.Name x px, .Name y py, .Name z pz] kt pt] (.Tuple [a, b, d] k2 pt2) pos) (tS X.K Γ H0 c (.par [i, j, l] es)) :=
  ps_weak (ps_par3 o.calm (by rw [o.names]; exact o.nd) (by rw [o.names]; exact hi) (by rw [o.names]; exact hj) (by rw [o.names]; exact hl) hij hil hjl (by rw [o.scope]; exact hx) (by rw [o.scope]; exact hy) (by rw [o.scope]; exact hz) ha (swapD_ok o.scope o.kind hw)) fun D σ H hq => by
    obtain ⟨ρ, g, us, g', p, he, q⟩ := t_par hq
    refine ⟨ρ, g, us, g', p, he, fun vs H1 s1 g1 r1 => ?_⟩
    obtain ⟨hl, q2⟩ := q vs H1 s1 g1 r1
    match vs, hl with
    | [u, v, w], _ => exact ⟨u, v, w, rfl, q2 H1 fun _ _ z => z⟩
theorem tg_okS (o : OkS C c k X sc) {tg : Tg} {tgE : Expr} {own : List (Str × Nat)} (h : tgOwn tg tgE = some own) (h3 : ∀ p ∈ own, C.N[p.2]? = some p.1) (h4 : ∀ p ∈ own, locB sc p.1 = true) : PG X tgE (tgG X.K tg) :=
  tg_ok o.toOk h h3 fun p hp => ⟨by rw [o.scope]; exact loc_of (h4 p hp), .inl (o.fnT _)⟩
theorem s_parT (o : OkS C c k X sc) {is : List Nat} {es : E} {ts vs : List Expr} {pt pt2 : Pos} {kt k2 : Nat} {own : List (Str × Nat)} (h : tgOwn (.tu is) (.Tuple ts kt pt) = some own) (h3 : ∀ p ∈ own, C.N[p.2]? = some p.1) (h4 : ∀ p ∈ own, locB sc p.1 = true)
    (ha : PA X vs (tP X.K Γ H0 c es)) (hl : is.length ≤ 1000) (hw : swapD sc ts vs = some none) : PS X (.Assign [.Tuple ts kt pt] (.Tuple vs k2 pt2) pos) (tS X.K Γ H0 c (.par is es)) :=
  ps_weak (ps_asg (pe_tup ha) (tg_okS o h h3 h4) rfl (swapD_ok o.scope o.kind hw)) fun D σ H hq => by
    obtain ⟨ρ, g, us, g', p, he, q⟩ := t_par hq
    refine ⟨ρ, g, us, g', p, he, fun vs H1 s1 g1 r1 => ?_⟩
    obtain ⟨hl2, q2⟩ := q vs H1 s1 g1 r1
    refine ⟨by rw [hl2, sizeLine_eq]; omega, fun a ha => ⟨a, vs, rfl, SqT.of upd_same, hl2, gNames_set hl2 (q2 _ (same_upd ha))⟩⟩
def noTupE : Expr → Bool
  | .Tuple .. => false
  | _ => true
theorem s_up (o : OkS C c k X sc) {is : List Nat} {e : E} {ts : List Expr} {x : Expr} {pt : Pos} {kt : Nat} {own : List (Str × Nat)} (h : tgOwn (.tu is) (.Tuple ts kt pt) = some own) (h3 : ∀ p ∈ own, C.N[p.2]? = some p.1) (h4 : ∀ p ∈ own, locB sc p.1 = true)
    (he : PE X x (tE X.K Γ H0 c e)) (hx : noTupE x = true) : PS X (.Assign [.Tuple ts kt pt] x pos) (tS X.K Γ H0 c (.up is e)) :=
  ps_weak (ps_asg he (tg_okS o h h3 h4) (by cases x <;> rfl) (by cases x <;> first | (cases hx; done) | rfl)) fun D σ H hq => by
    obtain ⟨ρ, g, o, ρ', g', p, he, q⟩ := hq
    simp only [ex, Option.bind_eq_bind, Option.bind_eq_some_iff] at he
    obtain ⟨⟨u, g1⟩, ea, d, hd, ρ1, hb, he⟩ := he
    cases he
    refine ⟨ρ, g, u, _, p, ea, fun v H1 po => ?_⟩
    have hv : Rep X.K H1 v d := by
      have h1 := po.val.rdg hd
      rcases h1 with h1 | ⟨a, vs, ds, rfl, rfl, _, _⟩
      · exact h1
      · cases hb
    exact bind_ok (ws := (Tg.tu is).slots) hv hb (p.env.sm po.sm p.gen) (fun _ z => z) fun σ1 e1 _ => q _ _ (po.sm.ext p.gen) ⟨e1, po.gen, p.old.trans po.sm⟩
theorem s_if {t : E} {a b : S} {x : Expr} {xs ys : List Stmt} (ht : PT X x (tT X.K Γ H0 c t)) (ha : PSs X xs (tS X.K Γ H0 c a)) (hb : PSs X ys (tS X.K Γ H0 c b)) : PS X (.If x xs ys pos) (tS X.K Γ H0 c (.if_ t a b)) :=
  ps_weak (ps_if ht ha hb) fun D σ H hq => by
    obtain ⟨ρ, g, o, ρ', g', p, he, q⟩ := hq
    simp only [ex, Option.bind_eq_bind, Option.bind_eq_some_iff] at he
    obtain ⟨⟨t1, g1⟩, et, he⟩ := he
    refine ⟨ρ, g, t1, g1, p, et, fun H1 sm1 go1 => ?_⟩
    have e1 := sm1.ext p.gen
    cases t1 with
    | true =>
      simp only [if_true] at he ⊢
      exact ⟨ρ, g1, o, ρ', g', p.step sm1 go1, he, q.ext e1⟩
    | false =>
      simp only [Bool.false_eq_true, if_false] at he ⊢
      exact ⟨ρ, g1, o, ρ', g', p.step sm1 go1, he, q.ext e1⟩
theorem s_re {e : E} {x : Expr} (he : PE X x (tE X.K Γ H0 c e)) : PS X (.Return (some x) pos) (tS X.K Γ H0 c (.re e)) :=
  ps_weak (ps_ret he) fun D σ H hq => by
    obtain ⟨ρ, g, o, ρ', g', p, he, q⟩ := hq
    simp only [ex, Option.bind_eq_bind, Option.bind_eq_some_iff] at he
    obtain ⟨⟨u, g1⟩, ea, w, hw, he⟩ := he
    cases he
    refine ⟨ρ, g, u, _, p, ea, fun v H1 po => q _ _ (p.old.trans po.sm) po.gen ?_⟩
    cases u with
    | sh d => cases hw; exact po.val
    | ow xs =>
      cases hw
      obtain ⟨a, vs, e, h1, h2, h3, _⟩ := po.val
      exact ⟨a, vs, e, h1, h2, h3.new⟩
    | bw xs =>
      cases hw
      obtain ⟨a, vs, e, h1, h2, h3⟩ := po.val
      exact ⟨a, vs, e, h1, h2, h3.new⟩
    | od _ => cases hw
    | bd _ => cases hw
    | gen => cases hw
theorem s_rn : PS X (.Return none pos) (tS X.K Γ H0 c .rn) := ps_weak ps_retN fun D σ H hq => by
  obtain ⟨ρ, g, o, ρ', g', p, he, q⟩ := hq
  cases he
  exact q .non H p.old p.gen .non
theorem s_br : PS X (.Break pos) (tS X.K Γ H0 c .br) := ps_weak ps_break fun D σ H hq => by
  obtain ⟨ρ, g, o, ρ', g', p, he, q⟩ := hq
  cases he
  exact q _ _ (Ext.refl _) p
theorem s_co : PS X (.Continue pos) (tS X.K Γ H0 c .co) := ps_weak ps_continue fun D σ H hq => by
  obtain ⟨ρ, g, o, ρ', g', p, he, q⟩ := hq
  cases he
  exact q _ _ (Ext.refl _) p
theorem s_pass : PS X (.Pass pos) (tS X.K Γ H0 c .nop) := ps_weak ps_pass fun D σ H hq => by
  obtain ⟨ρ, g, o, ρ', g', p, he, q⟩ := hq
  cases he
  exact q _ _ (Ext.refl _) p
/-! ### append, extend -/
/-- the list of slot i is another now -/
theorem Pre.grow {K : PySem.W.Frag} {σ : L2.St} {H : Hp} {ρ : Env} {g : G} {i : Nat} {xs ys : List D} {a : Addr} {vs us : List V} (p : Pre K Γ H0 σ H ρ g) (hi : ρ[i]? = some (some (.ow xs))) (hs : σ[i]? = some (some (.ref a))) (ha : H a = some (.lst vs)) (oa : OwnAt Γ H0 a)
    (r : RepAll K H us ys) : Pre K Γ H0 σ (upd H a (.lst us)) (ρ.set i (some (.ow ys))) g ∧ Ext H (upd H a (.lst us)) := by
  have ex1 : Ext H (upd H a (.lst us)) := upd_ext ha
  refine ⟨⟨⟨by rw [List.length_set]; exact p.env.len, fun j u hj => ?_, fun j1 j2 u w x hne hj1 hj2 o1 o2 => ?_⟩, ?_, ?_⟩, ex1⟩
  · rw [List.getElem?_set] at hj
    split at hj
    · rename_i hij
      subst hij
      split at hj
      · cases hj
        exact ⟨_, hs, a, us, rfl, upd_same, r.mono ex1, oa⟩
      · cases hj
    · rename_i hij
      obtain ⟨w, k1, k2⟩ := p.env.get j u hj
      refine ⟨w, k1, ?_⟩
      have sep : u.own = true → w ≠ .ref a := fun ow z => p.env.sep i j _ _ _ hij hi hj rfl ow hs (by rw [k1, z])
      cases u with
      | sh d => exact Rep.mono ex1 k2
      | ow ys =>
        obtain ⟨b, us, rfl, m1, m2, m3⟩ := k2
        have nb : b ≠ a := fun z => sep rfl (by rw [z])
        exact ⟨b, us, rfl, by rw [upd_ne nb]; exact m1, m2.mono ex1, m3⟩
      | od ys =>
        obtain ⟨b, us, rfl, m1, m2, m3⟩ := k2
        have nb : b ≠ a := fun z => sep rfl (by rw [z])
        exact ⟨b, us, rfl, by rw [upd_ne nb]; exact m1, m2.mono ex1, m3⟩
      | bw _ => exact k2
      | bd _ => exact k2
      | gen => exact k2
  · have back : ∀ {j : Nat} {u : Vl}, (ρ.set i (some (Vl.ow ys)))[j]? = some (some u) → u.own = true → ∃ u', ρ[j]? = some (some u') ∧ u'.own = true := fun {j u} h ou => by
      rw [List.getElem?_set] at h
      split at h
      · rename_i hij
        subst hij
        exact ⟨_, hi, rfl⟩
      · exact ⟨u, h, ou⟩
    obtain ⟨u', h1, h2⟩ := back hj1 o1
    obtain ⟨w', h3, h4⟩ := back hj2 o2
    exact p.env.sep j1 j2 u' w' x hne h1 h3 h2 h4
  · exact ⟨by rw [upd_ne (Ne.symm oa.nga)]; exact p.gen.1, by rw [upd_ne (Ne.symm oa.ngb)]; exact p.gen.2.1, p.gen.2.2⟩
  · exact fun b u e n1 n2 => by
      rw [upd_ne (by intro z; rw [z, oa.new] at e; cases e)]
      exact p.old b u e n1 n2
theorem few_one {e : Expr} {cpos : Pos} {env : PySem.Env} (h : noStar e = true) : ((backTo cpos (starEach [e] env)).all (fun x => !x.1) && (backToKw cpos (keywordEach [] env)).all (fun x => x.1.isSome)
      && decide (([e] : List Expr).length + ([] : List Keyword).length + (if ([] : List Keyword).isEmpty then 0 else 1) < 30)) = true := by
  rw [star_back (by rw [List.all_cons, h]; rfl)]
  rfl
theorem s_ap (o : OkS C c k X sc) {i : Nat} {e : E} {x : Str} {y : Expr} {p0 apos cpos : Pos} (hi : nmB C.N sc i x = true) (he : PE X y (tE X.K Γ H0 c e)) (hs : noStar y = true) (hl : (apos.endLine == cpos.line) = true) :
    PS X (.Expr (.Call (.Attribute (.Name x p0) "append" apos) [y] [] cpos) pos) (tS X.K Γ H0 c (.ap i e)) :=
  ps_weak (ps_expr (pe_bm F.plainAttrs_list F.slot_list_append F.type_list_append mt_append (o.var hi) (pa_cons (s_share he) pa_nil (star_cons hs)) rfl (few_one hs) hl (star_cons hs) rfl)) fun D σ H hq => by
    obtain ⟨ρ, g, o, ρ', g', p, hx, q⟩ := hq
    simp only [ex, Option.bind_eq_bind, Option.bind_eq_some_iff] at hx
    obtain ⟨⟨u, g1⟩, ea, d, hd, hx⟩ := hx
    split at hx
    · rename_i xs hxs
      split at hx
      · rename_i hlen
        cases hx
        obtain ⟨v, e1, a, vs, rfl, h1, h2, h3⟩ := p.env.get i _ hxs
        refine ⟨.ref a, e1, .inl ⟨rfl, vs, SqL.of h1⟩, ρ, g, u, _, d, p, ea, hd, fun w H1 sm1 go1 r1 => ?_⟩
        have p1 := p.step sm1 go1
        have h1' := sm1 _ _ h1 h3.nga h3.ngb
        refine ⟨a, vs, w, rfl, rfl, h1', by rw [h2.length]; exact hlen, ?_⟩
        obtain ⟨p2, e2⟩ := p1.grow hxs e1 h1' h3 ((h2.mono (sm1.ext p.gen)).append (.cons r1 .nil))
        exact q _ _ ((sm1.ext p.gen).trans e2) p2
      · cases hx
    · cases hx
theorem s_ex (o : OkS C c k X sc) {i : Nat} {e : E} {x : Str} {y : Expr} {p0 apos cpos : Pos} (hi : nmB C.N sc i x = true) (he : PE X y (tE X.K Γ H0 c e)) (hs : noStar y = true) (hl : (apos.endLine == cpos.line) = true) :
    PS X (.Expr (.Call (.Attribute (.Name x p0) "extend" apos) [y] [] cpos) pos) (tS X.K Γ H0 c (.ex i e)) :=
  ps_weak (ps_expr (pe_bm F.plainAttrs_list F.slot_list_extend F.type_list_extend mt_extend (o.var hi) (pa_cons he pa_nil (star_cons hs)) rfl (few_one hs) hl (star_cons hs) rfl)) fun D σ H hq => by
    obtain ⟨ρ, g, o, ρ', g', p, hx, q⟩ := hq
    simp only [ex, Option.bind_eq_bind, Option.bind_eq_some_iff] at hx
    obtain ⟨⟨u, g1⟩, ea, ys, hys, hx⟩ := hx
    split at hx
    · rename_i xs hxs
      split at hx
      · rename_i hlen
        cases hx
        obtain ⟨v, e1, a, vs, rfl, h1, h2, h3⟩ := p.env.get i _ hxs
        refine ⟨.ref a, e1, .inl ⟨rfl, vs, SqL.of h1⟩, ρ, g, u, _, p, ea, fun w H1 po => ?_⟩
        have p1 := p.step po.sm po.gen
        have h1' := po.sm _ _ h1 h3.nga h3.ngb
        obtain ⟨b, ws, rfl, k1, k2⟩ : ∃ b ws, w = .ref b ∧ H1 b = some (.lst ws) ∧ RepAll X.K H1 ws ys := by
          cases u with
          | ow zs =>
            cases hys
            obtain ⟨b, ws, e, k1, k2, _⟩ := po.val
            exact ⟨b, ws, e, k1, k2⟩
          | bw zs =>
            cases hys
            obtain ⟨b, ws, e, k1, k2, _⟩ := po.val
            exact ⟨b, ws, e, k1, k2⟩
          | sh _ => cases hys
          | od _ => cases hys
          | bd _ => cases hys
          | gen => cases hys
        refine ⟨a, b, vs, ws, rfl, rfl, h1', k1, by rw [h2.length, k2.length]; exact hlen, ?_⟩
        obtain ⟨p2, e2⟩ := p1.grow hxs e1 h1' h3 ((h2.mono (po.sm.ext p.gen)).append k2)
        exact q _ _ ((po.sm.ext p.gen).trans e2) p2
      · cases hx
    · cases hx
/-! ### for -/
theorem s_fo (o : OkS C c k X sc) {tg : Tg} {it : E} {b : S} {tgE iter : Expr} {body : List Stmt} (hi : PI X tgE iter (tIf X.K Γ H0 c it)) (hn : noSet iter = true) (hg : PG X tgE (tgG X.K tg)) (hb : PSs X body (tS X.K Γ H0 c b)) :
    PS X (.For tgE iter body [] pos) (tS X.K Γ H0 c (.fo tg it b)) :=
  ps_weak (ps_for (by rw [o.xe]; exact PassesOwn.never) o.calm hi hg hb (noSet_ok hn _)) fun D σ H hq => by
    obtain ⟨ρ, g, o, ρ', g', p, hx, q⟩ := hq
    simp only [ex, Option.bind_eq_bind, Option.bind_eq_some_iff] at hx
    obtain ⟨⟨vi, g1⟩, ei, d, hd, xs, hxs, hl⟩ := hx
    refine ⟨ρ, g, vi, g1, d, xs, p, ei, hd, hxs, fun J H1 sm1 go1 wk => ?_⟩
    obtain ⟨us, rus, hlen, hw⟩ := wk.ex
    have p1 := p.step sm1 go1
    refine ⟨fun i m σ2 H2 => m = xs.length - i ∧ i ≤ xs.length ∧ ∃ ρi gi, Ext H1 H2 ∧ Pre X.K Γ H0 σ2 H2 ρi gi ∧ forLoop (ex c b) (bindTg tg) (xs.drop i) ρi gi = some (o, ρ', g'), ⟨xs.length, by simp, Nat.zero_le _, ρ, g1, Ext.refl _, p1, hl⟩, ?_⟩
    rintro i m σ2 H2 ⟨rfl, hi, ρi, gi, e2, p2, hlp⟩
    have w2 := hw H2 e2 i
    have q1 : Fin X.K Γ H0 H2 D o ρ' g' := q.ext ((sm1.ext p.gen).trans e2)
    by_cases hlt : i < xs.length
    · obtain ⟨d, hd⟩ : ∃ d, xs[i]? = some d := ⟨xs[i], by simp [hlt]⟩
      obtain ⟨go, yl⟩ := w2.1 d hd
      rw [List.drop_eq_getElem_cons hlt] at hlp
      have hxi : xs[i] = d := by rw [List.getElem?_eq_getElem hlt] at hd; exact Option.some.inj hd
      rw [hxi] at hlp
      simp only [forLoop, Option.bind_eq_bind, Option.bind_eq_some_iff] at hlp
      obtain ⟨ρ1, hbd, ⟨ob, ρ2, g2⟩, hbody, hlp⟩ := hlp
      refine .inr ⟨go, fun σ' H' => ∃ ρi gi, Ext H1 H' ∧ Pre X.K Γ H0 σ' H' ρi gi ∧ forLoop (ex c b) (bindTg tg) (xs.drop (i + 1)) ρi gi = some (o, ρ', g'),
        fun σ' H' z => ⟨xs.length - (i + 1), by omega, rfl, hlt, z⟩, fun x H' y => ?_⟩
      obtain ⟨e, hx⟩ := yl x H' y
      subst e
      obtain ⟨d', hd', rx⟩ := rus.get' hx
      rw [hd] at hd'
      cases hd'
      refine bind_ok (ws := tg.slots) (rx.mono e2) hbd p2.env (fun i h => h) fun σ3 env3 _ => ⟨ρ1, gi, ob, ρ2, g2, ⟨env3, p2.gen, p2.old⟩, hbody, ?_⟩
      cases ob with
      | nx => exact fun σ' H' e' p' => ⟨ρ2, g2, e2.trans e', p', hlp⟩
      | ct => exact fun σ' H' e' p' => ⟨ρ2, g2, e2.trans e', p', hlp⟩
      | br =>
        cases hlp
        exact q1
      | rt v =>
        cases hlp
        exact q1
    · have e : i = xs.length := by omega
      subst e
      rw [List.drop_length] at hlp
      cases hlp
      exact .inl ⟨w2.2 (Nat.le_refl _), q1 _ _ (Ext.refl _) p2⟩
end
end Pu
set_option Elab.async false
set_option maxRecDepth 100000
set_option maxHeartbeats 8000000
set_option linter.all false
/-! P13: statements against the text; every def keeps its promise. -/
namespace Pu
open PySem PySem.Spec PyProof.Rows L2

inductive SS where
  | one (st : Stmt)
  | many (sts : List Stmt)
def isFz : S → Option Nat
  | .fz i => some i
  | _ => none
def isLc : E → Bool
  | .lc .. => true
  | _ => false
def swB (sc : Scope) (x : Str) (l : Nat) : Expr → Bool
  | .ListComp _ _ scope p => sc.names.lookup x == some .local && l == p.line && !(scope.names.any fun (n, k) => n == x && (k == .local || k == .cell))
  | .SetComp .. => true
  | .DictComp .. => true
  | _ => false
def ckT (C : Cks) (sc : Scope) (t : E) (x : Expr) : Bool := ck C t sc (.t x) || (plainT x && ck C t sc (.e x))
def ckI (C : Cks) (sc : Scope) (t : E) (x : Expr) : Bool := ck C t sc (.i x) || (noSet x && ck C t sc (.e x))
def ckG (C : Cks) (sc : Scope) (tg : Tg) (x : Expr) : Bool := match tgOwn tg x with
  | some own => own.all fun p => decide (C.N[p.2]? = some p.1) && locB sc p.1
  | none => false
def isLocal (sc : Scope) (x : Str) : Bool := match sc.names.lookup x with
  | some .local => true
  | _ => false
def ckPar (C : Cks) (sc : Scope) : List Nat → List Expr → List Expr → Bool
  | [i, j], [.Name x px, .Name y py], vs => decide (swapD sc [.Name x px, .Name y py] vs = some (some [x, y])) && (decide (vs.length = 2) && (decide (C.N[i]? = some x) && (decide (C.N[j]? = some y) && (decide (i ≠ j) && (isLocal sc x && isLocal sc y)))))
  | [i, j, l], [.Name x px, .Name y py, .Name z pz], vs => decide (swapD sc [.Name x px, .Name y py, .Name z pz] vs = some (some [x, y, z])) && (decide (vs.length = 3) && (decide (C.N[i]? = some x) && (decide (C.N[j]? = some y) && (decide (C.N[l]? = some z) &&
      (decide (i ≠ j) && (decide (i ≠ l) && (decide (j ≠ l) && (isLocal sc x && (isLocal sc y && isLocal sc z)))))))))
  | _, _, _ => false
def ckS (C : Cks) (sc : Scope) : S → SS → Bool
  | .nop => fun s => match s with
    | .many [] => true
    | .one (.Pass _) => true
    | _ => false
  | .seq a b => fun s => match s with
    | .many sts => match isFz a with
      | some _ => ckS C sc b (.many sts)
      | none => match sts with
        | st :: r => ckS C sc a (.one st) && ckS C sc b (.many r)
        | [] => false
    | _ => false
  | .as_ i e => fun s => match s with
    | .one (.Assign [.Name x p0] v _) => decide (C.N[i]? = some x) && (ck C e sc (.e v) && (if swB sc x p0.line v then isLc e && isLocal sc x else locB sc x))
    | _ => false
  | .par is es => fun s => match s with
    | .one (.Assign [.Tuple ts kt pt] (.Tuple vs _ _) _) => ck C es sc (.a vs) && (ckPar C sc is ts vs || (decide (is.length ≤ 1000) && (decide (swapD sc ts vs = some none) && ckG C sc (.tu is) (.Tuple ts kt pt))))
    | _ => false
  | .up is e => fun s => match s with
    | .one (.Assign [.Tuple ts kt pt] x _) => noTupE x && (ck C e sc (.e x) && ckG C sc (.tu is) (.Tuple ts kt pt))
    | _ => false
  | .if_ t a b => fun s => match s with
    | .one (.If x xs ys _) => ckT C sc t x && (ckS C sc a (.many xs) && ckS C sc b (.many ys))
    | _ => false
  | .fo tg it b => fun s => match s with
    | .one (.For tgE iter body [] _) => ckI C sc it iter && (ckG C sc tg tgE && ckS C sc b (.many body))
    | _ => false
  | .wh _ _ _ => fun _ => false
  | .re e => fun s => match s with
    | .one (.Return (some x) _) => ck C e sc (.e x)
    | _ => false
  | .rn => fun s => match s with
    | .one (.Return none _) => true
    | _ => false
  | .ap i e => fun s => match s with
    | .one (.Expr (.Call (.Attribute (.Name x _) m apos) [y] [] cpos) _) => decide (m = "append") && (nmB C.N sc i x && (ck C e sc (.e y) && (noStar y && (apos.endLine == cpos.line))))
    | _ => false
  | .ex i e => fun s => match s with
    | .one (.Expr (.Call (.Attribute (.Name x _) m apos) [y] [] cpos) _) => decide (m = "extend") && (nmB C.N sc i x && (ck C e sc (.e y) && (noStar y && (apos.endLine == cpos.line))))
    | _ => false
  | .si _ _ _ => fun _ => false
  | .po _ _ => fun _ => false
  | .fz _ => fun _ => false
  | .br => fun s => match s with
    | .one (.Break _) => true
    | _ => false
  | .co => fun s => match s with
    | .one (.Continue _) => true
    | _ => false

section
variable {C : Cks} {c : Cf} {k : Nat} {X : Cx} {sc : Scope} {Γ : Gh} {H0 : Hp} {pos : Pos}
def SndS (X : Cx) (Γ : Gh) (H0 : Hp) (c : Cf) (s : S) : SS → Prop
  | .one st => PS X st (tS X.K Γ H0 c s)
  | .many sts => PSs X sts (tS X.K Γ H0 c s)
theorem isLocal_of {x : Str} (h : isLocal sc x = true) : sc.names.lookup x = some .local := by
  unfold isLocal at h
  split at h
  · assumption
  · cases h
theorem swB_ok {env : PySem.Env} {x : Str} {p0 : Pos} {v : Expr} {l : Nat} (hs : env.scope = sc) (hk : sc.kind = .function) (h : ∀ (a b : Expr) gs (s : Scope) (p : Pos), v ≠ .SetComp a gs s p ∧ v ≠ .DictComp a b gs s p) : swapsWith v (some (.Name x p0)) l env = pure (swB sc x p0.line v) := by
  have hb : (env.blockKind == .function) = true := by unfold Env.blockKind; rw [hs, hk]; rfl
  subst hs
  cases v with
  | ListComp elt gs scope p =>
    show (pure (env.blockKind == .function && env.kindOf x == some .local && p0.line == p.line && !(scope.names.any fun (n, k) => n == x && (k == .local || k == .cell))) : Sem Bool) = _
    rw [hb, Bool.true_and]
    rfl
  | SetComp a gs s p => exact absurd rfl (h a a gs s p).1
  | DictComp a b gs s p => exact absurd rfl (h a b gs s p).2
  | _ => rfl
theorem no_sets {e : E} {v : Expr} (h : ck C e sc (.e v) = true) : ∀ (a b : Expr) gs (s : Scope) (p : Pos), v ≠ .SetComp a gs s p ∧ v ≠ .DictComp a b gs s p := by
  intro a b gs s p
  refine ⟨?_, ?_⟩ <;> rintro rfl <;> cases e <;> cases h
theorem g_ok (o : OkS C c k X sc) {tg : Tg} {x : Expr} (h : ckG C sc tg x = true) : ∃ own, tgOwn tg x = some own ∧ (∀ p ∈ own, C.N[p.2]? = some p.1) ∧ ∀ p ∈ own, locB sc p.1 = true := by
  unfold ckG at h
  split at h
  · rename_i own hown
    simp only [List.all_eq_true, Bool.and_eq_true, decide_eq_true_eq] at h
    exact ⟨own, hown, fun p hp => (h p hp).1, fun p hp => (h p hp).2⟩
  · cases h
theorem soundS (o : OkS C c k X sc) (s : S) : ∀ ss : SS, ckS C sc s ss = true → SndS X Γ H0 c s ss := by
  have E1 : ∀ {e : E} {x : Expr}, ck C e sc (.e x) = true → PE X x (tE X.K Γ H0 c e) := fun {e x} h => sound C c k Γ H0 e X sc (.e x) o.toOk h
  have T1 : ∀ {e : E} {x : Expr}, ckT C sc e x = true → PT X x (tT X.K Γ H0 c e) := fun {e x} h => sd_t (sound C c k Γ H0 e) o.toOk h
  induction s with
  | nop =>
    intro ss h
    simp only [ckS] at h
    split at h
    · exact s_pnop
    · exact s_pass
    · cases h
  | seq a b ha hb =>
    intro ss h
    simp only [ckS] at h
    split at h
    · rename_i sts
      split at h
      · rename_i i hi
        have : a = .fz i := by
          cases a <;> first | (cases hi; done) | (cases hi; rfl)
        subst this
        exact s_fz (hb (.many sts) h)
      · split at h
        · rename_i st r
          rw [Bool.and_eq_true] at h
          exact s_seq (ha (.one st) h.1) (hb (.many r) h.2)
        · cases h
    · cases h
  | as_ i e =>
    intro ss h
    simp only [ckS] at h
    split at h
    · rename_i x p0 v p1
      rw [Bool.and_eq_true, Bool.and_eq_true, decide_eq_true_eq] at h
      obtain ⟨h1, h2, h3⟩ := h
      have hsw := swB_ok (x := x) (p0 := p0) (l := p1.line) o.scope o.kind (no_sets h2)
      split at h3
      · rename_i hb
        rw [hb] at hsw
        rw [Bool.and_eq_true] at h3
        cases e <;> try (cases h3.1; done)
        rename_i tg it t el
        have h20 := h2
        simp only [ck] at h2
        split at h2
        · rename_i hx
          cases hx
          obtain ⟨own, L⟩ := lc_ok (sound C c k Γ H0 it) (sound C c k Γ H0 t) (sound C c k Γ H0 el) o.toOk h20
          exact s_asLc o h1 (isLocal_of h3.2) L hsw
        · cases h2
      · rename_i hb
        rw [Bool.not_eq_true] at hb
        rw [hb] at hsw
        exact s_as o h1 h3 (E1 h2) hsw
    · cases h
  | par is es =>
    intro ss h
    simp only [ckS] at h
    split at h
    · rename_i ts kt pt vs k2 pt2 pp
      rw [Bool.and_eq_true, Bool.or_eq_true] at h
      obtain ⟨h1, h2⟩ := h
      obtain ⟨_, _, r3, _, _, _⟩ := row_facts (sound C c k Γ H0 es X sc (.a vs) o.toOk h1)
      rcases h2 with h2 | h2
      · unfold ckPar at h2
        split at h2
        · simp only [Bool.and_eq_true, decide_eq_true_eq] at h2
          obtain ⟨h3, h4, h5, h6, h7, h8, h9⟩ := h2
          match vs, h4, h3, r3 with
          | [a, b], _, h3, r3 => exact s_par2 o h5 h6 h7 (isLocal_of h8) (isLocal_of h9) r3 h3
        · simp only [Bool.and_eq_true, decide_eq_true_eq] at h2
          obtain ⟨h3, h4, h5, h6, h7, h8, h9, h10, h11, h12, h13⟩ := h2
          match vs, h4, h3, r3 with
          | [a, b, d], _, h3, r3 => exact s_par3 o h5 h6 h7 h8 h9 h10 (isLocal_of h11) (isLocal_of h12) (isLocal_of h13) r3 h3
        · cases h2
      · simp only [Bool.and_eq_true, decide_eq_true_eq] at h2
        obtain ⟨h3, h4, h5⟩ := h2
        obtain ⟨own, g1, g2, g3⟩ := g_ok o h5
        exact s_parT o g1 g2 g3 r3 h3 h4
    · cases h
  | up is e =>
    intro ss h
    simp only [ckS] at h
    split at h
    · simp only [Bool.and_eq_true] at h
      obtain ⟨own, g1, g2, g3⟩ := g_ok o h.2.2
      exact s_up o g1 g2 g3 (E1 h.2.1) h.1
    · cases h
  | if_ t a b ha hb =>
    intro ss h
    simp only [ckS] at h
    split at h
    · simp only [Bool.and_eq_true] at h
      exact s_if (T1 h.1) (ha (.many _) h.2.1) (hb (.many _) h.2.2)
    · cases h
  | fo tg it b hb =>
    intro ss h
    simp only [ckS] at h
    split at h
    · simp only [Bool.and_eq_true] at h
      obtain ⟨own, g1, g2, g3⟩ := g_ok o h.2.1
      obtain ⟨i1, i2⟩ := sd_i (sound C c k Γ H0 it) o.toOk h.1
      exact s_fo o (i1 _).2 i2 (tg_okS o g1 g2 g3) (hb (.many _) h.2.2)
    · cases h
  | wh n t b hb => intro ss h; cases h
  | re e =>
    intro ss h
    simp only [ckS] at h
    split at h
    · exact s_re (E1 h)
    · cases h
  | rn =>
    intro ss h
    simp only [ckS] at h
    split at h
    · exact s_rn
    · cases h
  | ap i e =>
    intro ss h
    simp only [ckS] at h
    split at h
    · simp only [Bool.and_eq_true, decide_eq_true_eq] at h
      obtain ⟨rfl, h1, h2, h3, h4⟩ := h
      exact s_ap o h1 (E1 h2) h3 h4
    · cases h
  | ex i e =>
    intro ss h
    simp only [ckS] at h
    split at h
    · simp only [Bool.and_eq_true, decide_eq_true_eq] at h
      obtain ⟨rfl, h1, h2, h3, h4⟩ := h
      exact s_ex o h1 (E1 h2) h3 h4
    · cases h
  | si i kk e => intro ss h; cases h
  | po i j => intro ss h; cases h
  | fz i => intro ss h; cases h
  | br =>
    intro ss h
    simp only [ckS] at h
    split at h
    · exact s_br
    · cases h
  | co =>
    intro ss h
    simp only [ckS] at h
    split at h
    · exact s_co
    · cases h
end

/-! ### defs -/
inductive All2 (R : V → Vl → Prop) : List V → List Vl → Prop
  | nil : All2 R [] []
  | cons {v : V} {vs : List V} {u : Vl} {us : List Vl} : R v u → All2 R vs us → All2 R (v :: vs) (u :: us)
theorem All2.length {R : V → Vl → Prop} : ∀ {vs : List V} {us : List Vl}, All2 R vs us → vs.length = us.length
  | _, _, .nil => rfl
  | _, _, .cons _ r => by simp [All2.length r]
theorem All2.get {R : V → Vl → Prop} : ∀ {vs : List V} {us : List Vl} {i : Nat} {u : Vl}, All2 R vs us → us[i]? = some u → ∃ v, vs[i]? = some v ∧ R v u
  | _, _, _, _, .nil, e => by simp at e
  | _, _, 0, _, .cons h _, e => by simp at e; subst e; exact ⟨_, rfl, h⟩
  | _, _, i + 1, u, .cons _ r, e => by
    obtain ⟨v, h1, h2⟩ := All2.get (i := i) (u := u) r (by simpa using e)
    exact ⟨v, by simpa using h1, h2⟩
theorem pad_get {α : Type} {us : List α} {n i : Nat} {u : α} (h : (us.map some ++ List.replicate n none)[i]? = some (some u)) : us[i]? = some u := by
  by_cases hi : i < us.length
  · rw [List.getElem?_append_left (by simpa using hi), List.getElem?_map] at h
    cases q : us[i]? with
    | none => rw [q] at h; cases h
    | some w => rw [q] at h; cases h; rfl
  · rw [List.getElem?_append_right (by simpa using hi), List.getElem?_replicate] at h
    split at h <;> cases h
theorem env_start {K : PySem.W.Frag} {Γ : Gh} {H0 H : Hp} {vs : List V} {us : List Vl} {n : Nat} (r : All2 (fun v u => SR K Γ H0 H v u ∧ u.own = false) vs us) : EnvR K Γ H0 H (vs.map some ++ List.replicate n none) (us.map some ++ List.replicate n none) := by
  refine ⟨by simp [r.length], fun i u h => ?_, fun i j u w v _ hi hj o1 _ _ _ => ?_⟩
  · obtain ⟨v, h1, h2, _⟩ := r.get (pad_get h)
    refine ⟨v, ?_, h2⟩
    have hi : i < vs.length := by
      rcases List.getElem?_eq_some_iff.mp h1 with ⟨z, _⟩
      exact z
    rw [List.getElem?_append_left (by simpa using hi), List.getElem?_map, h1]
    rfl
  · obtain ⟨_, _, _, h2⟩ := r.get (pad_get hi)
    rw [h2] at o1
    cases o1
theorem all2_sh {K : PySem.W.Frag} {Γ : Gh} {H0 H : Hp} : ∀ {vs : List V} {ds : List D}, RepAll K H vs ds → All2 (fun v u => SR K Γ H0 H v u ∧ u.own = false) vs (ds.map Vl.sh)
  | _, _, .nil => .nil
  | _, _, .cons h r => .cons ⟨h, rfl⟩ (all2_sh r)
def Fn.args (F : Fn) (ds : List D) : List Vl := (if F.gen then [Vl.gen] else []) ++ ds.map Vl.sh
theorem start_args (F : Fn) (ds : List D) : F.start ds = (F.args ds).map some ++ List.replicate (F.n - (F.args ds).length) none := by
  unfold Fn.start Fn.args
  cases F.gen <;> simp [Function.comp_def]
theorem args_all2 {K : PySem.W.Frag} {Γ : Gh} {H0 H : Hp} {F : Fn} {vs : List V} {ds : List D} (r : ArgsR K Γ H F.gen vs ds) : All2 (fun v u => SR K Γ H0 H v u ∧ u.own = false) vs (F.args ds) := by
  unfold Fn.args
  cases hg : F.gen with
  | false =>
    rw [hg] at r
    exact all2_sh r
  | true =>
    rw [hg] at r
    obtain ⟨ws, rfl, r⟩ := r
    exact .cons ⟨rfl, rfl⟩ (all2_sh r)

/-- a def of the text that agrees with its plain form -/
structure FnD (fs : List (Str × Bool × Nat)) (cs : List Str) (p : Prog) (f : Str) (gen : Bool) (n : Nat) (d : He.DefD) (F : Fn) (N ps : List Str) : Prop where
  look : lookF p f = some F
  ntake : f ≠ "_law_take"
  gen : F.gen = gen
  nl : N.length = F.n
  len : ps.length = n
  dfl : d.dfl = []
  scope : FnScope N ps d.scope
  binds : ∀ (kV doc pm : Value) (an : Option Addr) (cdv ct : Value) (us : List Value), us.length = ps.length → bindArgs (PySem.W.fnOf d.name d.qual d.params d.body d.scope .none kV doc pm an cdv ct) ⟨us, []⟩ = pure (ps.zip us)
  body : ckS ⟨N, fs, cs⟩ d.scope F.body (.many d.body) = true

section
variable {P : Program} {w : World} {K : PySem.W.Frag} {mg : Str → Option Value} {base : Heap}
/-- what is known of the module -/
structure Mods (K : PySem.W.Frag) (mg : Str → Option Value) (cs : List Str) (cst : Str → Option Vl) : Prop where
  cst : ∀ x ∈ cs, ∃ u v d, mg x = some u ∧ RelV v u ∧ (∀ H, Rep K H v d) ∧ cst x = some (.sh d)
  blt : ∀ x ∈ blts, mg x = none
/-- a def is there and keeps its promise at call depth k -/
def FnAt (P : Program) (w : World) (K : PySem.W.Frag) (mg : Str → Option Value) (base : Heap) (p : Prog) (cst : Str → Option Vl) (k : Nat) (f : Str) (gen : Bool) (n : Nat) : Prop :=
  ∃ fa fd ps, mg f = some (.ref fa) ∧ PySem.W.keepIn K (.ref fa) = true ∧ Binds K fd ps [] ∧ FnOk P w K mg base C8.CX0 k fa fd ps (spF K (cfOf p cst k) f gen n)
theorem body_ok {fs : List (Str × Bool × Nat)} {cs : List Str} {p : Prog} {cst : Str → Option Vl} {f : Str} {gen : Bool} {n : Nat} {d : He.DefD} {F : Fn} {N ps : List Str} {k : Nat} {fd : FuncData} (D : FnD fs cs p f gen n d F N ps)
    (M : Mods K mg cs cst) (ih : ∀ f gen n, (f, gen, n) ∈ fs → FnAt P w K mg base p cst k f gen n) (FD : FunD K d.name d.qual d.params d.body d.scope [] (d.kws K) (He.fAd K d.at_) fd) (hm : mg f = some (.ref (He.fAd K d.at_))) :
    FnAt P w K mg base p cst (k + 1) f gen n := by
  refine ⟨_, fd, ps, hm, FD.kp, FD.bindsN D.binds, FD.ok D.scope (fun vs H Q E h => by rw [D.len]; exact h.1) fun cdv A outer s H vs Q E hr h => ?_⟩
  obtain ⟨hl, Γ, g, ds, r, g', ra, go, hc, q⟩ := h
  refine ⟨tS K Γ H (cfOf p cst k) F.body, PSs.nox ?_, ?_⟩
  · refine soundS (C := ⟨N, fs, cs⟩) (k := k) (sc := d.scope) ⟨⟨rfl, D.scope.nd, rfl, rfl, hr, fun f gen n hf => ?_, M.cst, M.blt⟩, fun _ => rfl, rfl, D.scope.kind⟩ F.body (.many d.body) D.body
    obtain ⟨fa, fd, ps, h1, h2, h3, h4⟩ := ih f gen n hf
    exact ⟨fa, fd, ps, h1, h2, h3, h4⟩
  · have e : call p cst (k + 1) f gen ds g = runF ⟨call p cst k, cst⟩ F gen ds g := by
      unfold call
      rw [if_neg D.ntake, D.look]
    have hc : call p cst (k + 1) f gen ds g = some (r, g') := hc
    rw [e] at hc
    unfold runF at hc
    split at hc
    · rename_i hgs
      simp only [Option.bind_eq_bind, Option.bind_eq_some_iff] at hc
      obtain ⟨⟨o, ρ', g1⟩, he, v, hv, hc⟩ := hc
      cases hc
      have hra : ArgsR K Γ H F.gen vs ds := by rw [hgs.1]; exact ra
      have al := args_all2 (H0 := H) hra
      refine ⟨F.start ds, g, o, ρ', _, ⟨?_, go, Sm.refl _ _⟩, he, ?_⟩
      · rw [start_args]
        show EnvR K Γ H H (vs.map some ++ List.replicate (N.length - vs.length) none) _
        rw [D.nl, al.length]
        exact env_start al
      · cases o with
        | nx =>
          cases hv
          exact fun σ' H' _ p' => q .non H' p'.old p'.gen .non
        | rt v' =>
          cases hv
          exact fun u H' sm go' nr => q u H' sm go' nr
        | br => cases hv
        | ct => cases hv
    · cases hc
/-- with no depth left nothing is promised -/
theorem at_zero {p : Prog} {cst : Str → Option Vl} {f : Str} {gen : Bool} {n : Nat} {d : He.DefD} {ps : List Str} {fd : FuncData} (hl : ps.length = n) (hb : ∀ (kV doc pm : Value) (an : Option Addr) (cdv ct : Value) (us : List Value), us.length = ps.length → bindArgs (PySem.W.fnOf d.name d.qual d.params d.body d.scope .none kV doc pm an cdv ct) ⟨us, []⟩ = pure (ps.zip us))
    (FD : FunD K d.name d.qual d.params d.body d.scope [] (d.kws K) (He.fAd K d.at_) fd) (hm : mg f = some (.ref (He.fAd K d.at_))) : FnAt P w K mg base p cst 0 f gen n := by
  refine ⟨_, fd, ps, hm, FD.kp, FD.bindsN hb, ⟨fun vs H Q E h => by rw [hl]; exact h.1, fun A outer s H args us vs Q E hr e0 hb r hs => ?_⟩⟩
  obtain ⟨_, Γ, g, ds, r, g', ra, go, hc, q⟩ := hs
  cases hc
end
end Pu
set_option Elab.async false
set_option maxRecDepth 100000
set_option maxHeartbeats 8000000
set_option linter.all false
/-! P14: the draws. -/
namespace Pu
open PySem PySem.Spec PyProof.Rows L2

section
variable {X : Cx}
/-- te comes to v and changes nothing -/
def Ev (te : TE) (σ : L2.St) (H : Hp) (v : V) : Prop := ∀ Q : VK, Q v H → te σ H Q
theorem ev_v {i : Nat} {σ : L2.St} {H : Hp} {v : V} (h : σ[i]? = some (some v)) : Ev (tVar i) σ H v := fun Q q => ⟨v, h, q⟩
theorem ev_c {σ : L2.St} {H : Hp} {v : V} : Ev (tC v) σ H v := fun Q q => q
theorem ev_at {K : PySem.W.Frag} {σ : L2.St} {H : Hp} {i : Nat} {a : Addr} {xs : List V} {v : V} {j : Nat} {tj : TE} (h1 : σ[i]? = some (some (.ref a))) (h2 : Ev tj σ H (.int (j : Nat))) (h3 : H a = some (.lst xs)) (h4 : xs[j]? = some v) : Ev (tOp (rIxL K) (tVar i) tj) σ H v := fun Q q => by
  refine ⟨_, h1, h2 _ ⟨a, xs, _, v, rfl, rfl, SqL.of h3, ?_, q⟩⟩
  have hj : j < xs.length := by
    rcases List.getElem?_eq_some_iff.mp h4 with ⟨z, _⟩
    exact z
  unfold atI ixN
  rw [if_pos (by omega), if_pos (by omega)]
  simpa using h4
theorem ev_op0 {ta tb : TE} {σ : L2.St} {H : Hp} {f : Int → Int → V} {i j : Int} (h1 : Ev ta σ H (.int i)) (h2 : Ev tb σ H (.int j)) : Ev (tOp (rI0 f) ta tb) σ H (f i j) := fun Q q => h1 _ (h2 _ ⟨i, j, rfl, rfl, q⟩)
theorem ev_op {ta tb : TE} {σ : L2.St} {H : Hp} {C : Int → Int → Prop} {f : Int → Int → V} {i j : Int} (h1 : Ev ta σ H (.int i)) (h2 : Ev tb σ H (.int j)) (hc : C i j) : Ev (tOp (rI C f) ta tb) σ H (f i j) := fun Q q => h1 _ (h2 _ ⟨i, j, rfl, rfl, hc, q⟩)
theorem st_set {te : TE} {i : Nat} {rest : TS} {D : Ends} {σ : L2.St} {H : Hp} {v : V} (h : Ev te σ H v) (q : rest D (σ.set i (some v)) H) : tSeq (tAsg te (gName i)) rest D σ H := h _ q
theorem st_put {te to ti : TE} {rest : TS} {D : Ends} {σ : L2.St} {H : Hp} {v : V} {a : Addr} {xs : List V} {j : Nat} (h : Ev te σ H v) (ho : Ev to σ H (.ref a)) (hi : Ev ti σ H (.int (j : Nat))) (ha : H a = some (.lst xs)) (hj : j < xs.length) (q : rest D σ (upd H a (.lst (xs.set j v)))) : tSeq (tAsg te (gSub to ti rSetL)) rest D σ H := by
  refine h _ (ho _ (hi _ ⟨a, xs, _, j, rfl, rfl, ha, ?_, q⟩))
  unfold ixN
  rw [if_pos (by omega), if_pos (by omega)]
  simp
theorem st_ret {te : TE} {D : Ends} {σ : L2.St} {H : Hp} {v : V} (h : Ev te σ H v) (q : D.rt v H) : tRet te D σ H := h _ q
theorem st_if {te : TE} {t rest : TS} {D : Ends} {σ : L2.St} {H : Hp} {b : Bool} (h : Ev te σ H (.bl b)) (q1 : b = true → t { D with nx := rest D } σ H) (q2 : b = false → rest D σ H) : tSeq (tIfS (tTest te) t tNext) rest D σ H := by
  refine h _ ⟨b, rfl, ?_⟩
  cases b with
  | true => exact q1 rfl
  | false => exact q2 rfl
def takeT (p0 p1 p2 p3 p4 p5 p6 p7 p8 p9 p10 p11 p12 p13 p14 p15 p16 p17 p18 p19 p20 p21 p22 p23 p24 p25 p26 p27 p28 p29 p30 p31 p32 p33 p34 p35 p36 p37 p38 p39 p40 p41 p42 p43 p44 p45 p46 p47 p48 p49 p50 p51 p52 p53 p54 p55 p56 p57 p58 p59 p60 p61 p62 p63 p64 p65 p66 p67 p68 p69 p70 p71 p72 p73 p74 p75 p76 p77 p78 p79 p80 p81 p82 p83 p84 p85 p86 p87 p88 p89 p90 : Pos) : List Stmt :=
  [.If (.Compare (.Name "most" p0) [.Lt] [(.Constant (.int 2) 0 p1)] p2) [.Return (some (.Constant (.int 0) 0 p3)) p4] [] p5,
    .Assign [(.Name "numbers_left" p6)] (.Subscript (.Name "state" p7) (.Constant (.int 1) 0 p8) p9) p10,
    .Assign [(.Name "at" p11)] (.BinOp (.Call (.Name "int" p12) [(.Subscript (.Name "state" p13) (.Constant (.int 0) 0 p14) p15)] [] p16) .Mod (.Call (.Name "len" p17) [(.Name "numbers_left" p18)] [] p19) p20) p21,
    .Assign [(.Name "cell" p22)] (.Subscript (.Name "numbers_left" p23) (.Name "at" p24) p25) p26,
    .If (.Compare (.Name "cell" p27) [.GtE] [(.Constant (.int 1000000000000000000) 0 p28)] p29) [.Assign [(.Subscript (.Name "numbers_left" p30) (.Name "at" p31) p32)] (.BinOp (.Name "cell" p33) .FloorDiv (.Name "most" p34) p35) p36, .Return (some (.BinOp (.Call (.Name "int" p37) [(.Name "cell" p38)] [] p39) .Mod (.Name "most" p40) p41)) p42] [] p43,
    .Assign [(.Subscript (.Name "state" p44) (.Constant (.int 0) 0 p45) p46)] (.BinOp (.Subscript (.Name "state" p47) (.Constant (.int 0) 0 p48) p49) .Add (.Constant (.int 1) 0 p50) p51) p52,
    .Assign [(.Name "stirred" p53)] (.BinOp (.Call (.Name "int" p54) [(.BinOp (.BinOp (.Name "cell" p55) .Mult (.Constant (.int 48271) 0 p56) p57) .Add (.BinOp (.Subscript (.Name "state" p58) (.Constant (.int 0) 0 p59) p60) .Mult (.Constant (.int 69621) 0 p61) p62) p63)] [] p64) .Mod (.Constant (.int 2147483647) 0 p65) p66) p67,
    .Assign [(.Name "stirred" p68)] (.BinOp (.Call (.Name "int" p69) [(.BinOp (.BinOp (.Name "stirred" p70) .Mult (.Constant (.int 16807) 0 p71) p72) .Add (.BinOp (.Subscript (.Name "state" p73) (.Constant (.int 0) 0 p74) p75) .Mult (.Constant (.int 7919) 0 p76) p77) p78)] [] p79) .Mod (.Constant (.int 1000000007) 0 p80) p81) p82,
    .Return (some (.BinOp (.Call (.Name "int" p83) [(.BinOp (.Name "stirred" p84) .FloorDiv (.Constant (.int 7) 0 p85) p86)] [] p87) .Mod (.Name "most" p88) p89)) p90]
def takeN : List Str := ["state", "most", "numbers_left", "at", "cell", "stirred"]
structure TakeX (X : Cx) : Prop where
  N : X.N = takeN
  loc : ∀ x ∈ takeN, X.env.scope.names.lookup x = some .local
  fn : ∀ x, X.fn x = true
  int : Gl X "int" ∧ X.mg "int" = none
  len : Gl X "len" ∧ X.mg "len" = none
theorem TakeX.nd {X : Cx} (T : TakeX X) : X.N.Nodup := by rw [T.N]; decide +kernel
theorem TakeX.var {X : Cx} (T : TakeX X) (i : Nat) {x : Str} {pos : Pos} (h : takeN[i]? = some x) (h1 : (x == ("__debug__" : Str)) = false := by decide +kernel) (h2 : (x == ("__classdict__" : Str)) = false := by decide +kernel) : PE X (.Name x pos) (tVar i) :=
  pe_var (by rw [T.N]; exact h) (.inl (T.loc x (List.mem_of_getElem? h))) h1 h2
theorem TakeX.set {X : Cx} (T : TakeX X) (i : Nat) {x : Str} {e : Expr} {te : TE} {pos' pos : Pos} (h : takeN[i]? = some x) (he : PE X e te) (hs : swapsWith e (some (.Name x pos')) pos.line X.env = pure false := by rfl) : PS X (.Assign [.Name x pos'] e pos) (tAsg te (gName i)) :=
  ps_set T.nd (by rw [T.N]; exact h) (.inl (T.loc x (List.mem_of_getElem? h))) he hs (.inl (T.fn x))
theorem TakeX.toInt {X : Cx} (T : TakeX X) {e : Expr} {te : TE} {p0 pos : Pos} (he : PE X e te) (hs : noStar e = true := by rfl) : PE X (.Call (.Name "int" p0) [e] [] pos) (tCB (fun xs H Q => (∃ i, xs = [.int i] ∧ Q (.int i) H) ∨ ∃ k, xs = [.bl k] ∧ Q (.int (if k then 1 else 0)) H) (tCons te tNil)) :=
  pe_callTy call_int1 T.int.1 T.int.2 (by decide +kernel) (pa_cons he pa_nil (star_cons hs)) (by decide +kernel) (by decide +kernel) (star_cons hs) rfl
abbrev tInt (te : TE) : TE := tCB (fun xs H Q => (∃ i, xs = [.int i] ∧ Q (.int i) H) ∨ ∃ k, xs = [.bl k] ∧ Q (.int (if k then 1 else 0)) H) (tCons te tNil)
theorem TakeX.toLen {X : Cx} (T : TakeX X) {e : Expr} {te : TE} {p0 pos : Pos} (he : PE X e te) (hs : noStar e = true := by rfl) : PE X (.Call (.Name "len" p0) [e] [] pos) (tCB (fun xs H Q => ∃ p ys, xs = [.ref p] ∧ (SqL X.K H p ys ∨ SqT X.K H p ys) ∧ Q (.int ys.length) H) (tCons te tNil)) :=
  pe_callB call_len_seq T.len.1 T.len.2 (by decide +kernel) (pa_cons he pa_nil (star_cons hs)) (by decide +kernel) (by decide +kernel) (star_cons hs) rfl
theorem evp_int {te : TE} {σ : L2.St} {H : Hp} {i : Int} (h : Ev te σ H (.int i)) : Ev (tInt te) σ H (.int i) := fun Q q => h _ (.inl ⟨i, rfl, q⟩)
abbrev tLen (K : PySem.W.Frag) (te : TE) : TE := tCB (fun xs H Q => ∃ p ys, xs = [.ref p] ∧ (SqL K H p ys ∨ SqT K H p ys) ∧ Q (.int ys.length) H) (tCons te tNil)
theorem ev_len {K : PySem.W.Frag} {te : TE} {σ : L2.St} {H : Hp} {a : Addr} {xs : List V} (h : Ev te σ H (.ref a)) (ha : H a = some (.lst xs)) : Ev (tLen K te) σ H (.int xs.length) := fun Q q => h _ ⟨a, xs, rfl, .inl (SqL.of ha), q⟩
abbrev tAt (K : PySem.W.Frag) (i : Nat) (j : TE) : TE := tOp (rIxL K) (tVar i) j
abbrev rP : R2 := rI0 fun i j => .int (i + j)
abbrev rM : R2 := rI CMul fun i j => .int (i * j)
abbrev rD : R2 := rI CDiv fun i j => .int (i / j)
abbrev rR : R2 := rI (fun _ j => 0 < j) fun i j => .int (i % j)
def tTake (K : PySem.W.Frag) : TS :=
  tSeq (tIfS (tTest (tOp (rI0 fun i j => .bl (decide (i < j))) (tVar 1) (tC (.int 2)))) (tRet (tC (.int 0))) tNext)
    (tSeq (tAsg (tAt K 0 (tC (.int 1))) (gName 2))
    (tSeq (tAsg (tOp rR (tInt (tAt K 0 (tC (.int 0)))) (tLen K (tVar 2))) (gName 3))
    (tSeq (tAsg (tAt K 2 (tVar 3)) (gName 4))
    (tSeq (tIfS (tTest (tOp (rI0 fun i j => .bl (decide (j ≤ i))) (tVar 4) (tC (.int 1000000000000000000)))) (tSeq (tAsg (tOp rD (tVar 4) (tVar 1)) (gSub (tVar 2) (tVar 3) rSetL)) (tRet (tOp rR (tInt (tVar 4)) (tVar 1)))) tNext)
    (tSeq (tAsg (tOp rP (tAt K 0 (tC (.int 0))) (tC (.int 1))) (gSub (tVar 0) (tC (.int 0)) rSetL))
    (tSeq (tAsg (tOp rR (tInt (tOp rP (tOp rM (tVar 4) (tC (.int 48271))) (tOp rM (tAt K 0 (tC (.int 0))) (tC (.int 69621))))) (tC (.int 2147483647))) (gName 5))
    (tSeq (tAsg (tOp rR (tInt (tOp rP (tOp rM (tVar 5) (tC (.int 16807))) (tOp rM (tAt K 0 (tC (.int 0))) (tC (.int 7919))))) (tC (.int 1000000007))) (gName 5))
      (tRet (tOp rR (tInt (tOp rD (tVar 5) (tC (.int 7)))) (tVar 1))))))))))
theorem take_pss {p0 p1 p2 p3 p4 p5 p6 p7 p8 p9 p10 p11 p12 p13 p14 p15 p16 p17 p18 p19 p20 p21 p22 p23 p24 p25 p26 p27 p28 p29 p30 p31 p32 p33 p34 p35 p36 p37 p38 p39 p40 p41 p42 p43 p44 p45 p46 p47 p48 p49 p50 p51 p52 p53 p54 p55 p56 p57 p58 p59 p60 p61 p62 p63 p64 p65 p66 p67 p68 p69 p70 p71 p72 p73 p74 p75 p76 p77 p78 p79 p80 p81 p82 p83 p84 p85 p86 p87 p88 p89 p90 : Pos} (T : TakeX X) : PSs X (takeT p0 p1 p2 p3 p4 p5 p6 p7 p8 p9 p10 p11 p12 p13 p14 p15 p16 p17 p18 p19 p20 p21 p22 p23 p24 p25 p26 p27 p28 p29 p30 p31 p32 p33 p34 p35 p36 p37 p38 p39 p40 p41 p42 p43 p44 p45 p46 p47 p48 p49 p50 p51 p52 p53 p54 p55 p56 p57 p58 p59 p60 p61 p62 p63 p64 p65 p66 p67 p68 p69 p70 p71 p72 p73 p74 p75 p76 p77 p78 p79 p80 p81 p82 p83 p84 p85 p86 p87 p88 p89 p90) (tTake X.K) := by
  have v0 : ∀ {pos}, PE X (.Name "state" pos) (tVar 0) := fun {pos} => T.var 0 rfl
  have v1 : ∀ {pos}, PE X (.Name "most" pos) (tVar 1) := fun {pos} => T.var 1 rfl
  have v2 : ∀ {pos}, PE X (.Name "numbers_left" pos) (tVar 2) := fun {pos} => T.var 2 rfl
  have v3 : ∀ {pos}, PE X (.Name "at" pos) (tVar 3) := fun {pos} => T.var 3 rfl
  have v4 : ∀ {pos}, PE X (.Name "cell" pos) (tVar 4) := fun {pos} => T.var 4 rfl
  have v5 : ∀ {pos}, PE X (.Name "stirred" pos) (tVar 5) := fun {pos} => T.var 5 rfl
  refine pss_cons (ps_if (pt_cmpR op_lt v1 pe_int (nomark _)) (pss_one (ps_ret pe_int)) pss_nil) ?_
  refine pss_cons (T.set 2 rfl (pe_ix ix_list v0 pe_int (plain_ix rfl))) ?_
  refine pss_cons (T.set 3 rfl (pe_op op_mod (T.toInt (pe_ix ix_list v0 pe_int (plain_ix rfl))) (T.toLen v2))) ?_
  refine pss_cons (T.set 4 rfl (pe_ix ix_list v2 v3 (plain_ix rfl))) ?_
  refine pss_cons (ps_if (pt_cmpR op_ge v4 pe_int (nomark _)) (pss_cons (ps_asg (pe_op op_fdiv v4 v1) (pg_sub v2 v3 set_list)) (pss_one (ps_ret (pe_op op_mod (T.toInt v4) v1)))) pss_nil) ?_
  refine pss_cons (ps_asg (pe_op op_add (pe_ix ix_list v0 pe_int (plain_ix rfl)) pe_int) (pg_sub v0 pe_int set_list)) ?_
  refine pss_cons (T.set 5 rfl (pe_op op_mod (T.toInt (pe_op op_add (pe_op op_mul v4 pe_int) (pe_op op_mul (pe_ix ix_list v0 pe_int (plain_ix rfl)) pe_int))) pe_int)) ?_
  refine pss_cons (T.set 5 rfl (pe_op op_mod (T.toInt (pe_op op_add (pe_op op_mul v5 pe_int) (pe_op op_mul (pe_ix ix_list v0 pe_int (plain_ix rfl)) pe_int))) pe_int)) ?_
  exact pss_one (ps_ret (pe_op op_mod (T.toInt (pe_op op_fdiv v5 pe_int)) v1))
theorem ns_set (ns : List Nat) (j m : Nat) : (ns.map fun (m : Nat) => V.int m).set j (.int (m : Nat)) = (ns.set j m).map fun (m : Nat) => V.int m := by rw [List.map_set]
theorem t_take {K : PySem.W.Frag} {Γ : Gh} {H : Hp} {g g' : G} {n i : Int} {Q : VK} {nx : L2.St → Hp → Prop} (go : GenOk Γ H g) (h : takeG g n = some (i, g')) (q : ∀ H', Sm Γ H H' → GenOk Γ H' g' → Q (.int i) H') :
    tTake K { nx := nx, rt := Q } [some (.ref Γ.ga), some (.int n), none, none, none, none] H := by
  unfold takeG at h
  refine st_if (b := decide (n < 2)) (ev_op0 (ev_v rfl) ev_c) (fun hb => ?_) fun hb => ?_
  · rw [if_pos (of_decide_eq_true hb)] at h
    cases h
    exact st_ret ev_c (q H (Sm.refl _ _) go)
  rw [if_neg (of_decide_eq_false hb)] at h
  have h2 : ¬ n < 2 := of_decide_eq_false hb
  split at h
  · cases h
  rename_i hbig
  obtain ⟨ga, gb, hne⟩ := go
  have hlen : 0 < g.ns.length := List.length_pos_iff.mpr g.ne
  have hat : g.at_ % g.ns.length < g.ns.length := Nat.mod_lt _ hlen
  have hcell : g.ns[g.at_ % g.ns.length]? = some (g.ns.getD (g.at_ % g.ns.length) 0) := by
    rw [List.getD_eq_getElem?_getD, List.getElem?_eq_getElem hat]
    rfl
  dsimp only at h
  obtain ⟨cell, hcl⟩ : ∃ cell, g.ns.getD (g.at_ % g.ns.length) 0 = cell := ⟨_, rfl⟩
  rw [hcl] at hcell
  have hcell' : (g.ns.map fun (m : Nat) => V.int m)[g.at_ % g.ns.length]? = some (.int (cell : Nat)) := by
    rw [List.getElem?_map, hcell]
    rfl
  have hnn : ((n.toNat : Nat) : Int) = n := by omega
  have smU : ∀ {a o}, (a = Γ.ga ∨ a = Γ.gb) → Sm Γ H (upd H a o) := fun {a o} ha b u e n1 n2 => by
    rw [upd_ne (by rintro rfl; rcases ha with z | z; exact n1 z; exact n2 z)]
    exact e
  -- numbers_left, at, cell
  refine st_set (ev_at (j := 1) rfl ev_c ga rfl) ?_
  refine st_set (v := .int (g.at_ % g.ns.length : Nat)) ?_ ?_
  · have e := ev_op (C := fun _ j => (0 : Int) < j) (f := fun i j => V.int (i % j)) (evp_int (ev_at (K := K) (σ := [some (.ref Γ.ga), some (.int n), some (.ref Γ.gb), none, none, none]) (i := 0) (j := 0) rfl ev_c ga rfl)) (ev_len (K := K) (ev_v (i := 2) rfl) gb) (by rw [List.length_map]; omega)
    rw [List.length_map] at e
    exact e
  refine st_set (ev_at (j := g.at_ % g.ns.length) rfl (ev_v rfl) gb hcell') ?_
  refine st_if (b := decide ((1000000000000000000 : Int) ≤ (cell : Nat))) (ev_op0 (ev_v rfl) ev_c) (fun hb => ?_) fun hb => ?_
  · have hc : 1000000000000000000 ≤ cell := by have := of_decide_eq_true hb; omega
    rw [if_pos (by rw [hcl]; exact hc)] at h
    cases h
    refine st_put (ev_op (ev_v (v := .int (cell : Nat)) rfl) (ev_v (v := .int n) rfl) (by unfold CDiv; omega)) (ev_v rfl) (ev_v (v := .int (g.at_ % g.ns.length : Nat)) rfl) gb (by rw [List.length_map]; exact hat) ?_
    have e1 : ((cell : Nat) : Int) / n = ((cell / n.toNat : Nat) : Int) := by rw [Int.natCast_ediv, hnn]
    have e2 : ((cell : Nat) : Int) % n = ((cell % n.toNat : Nat) : Int) := by rw [Int.natCast_emod, hnn]
    refine st_ret (ev_op (evp_int (ev_v (v := .int (cell : Nat)) rfl)) (ev_v (v := .int n) rfl) (by show (0 : Int) < n; omega)) ?_
    rw [e1, e2, ns_set]
    have z := q (upd H Γ.gb (.lst ((g.ns.set (g.at_ % g.ns.length) (cell / n.toNat)).map fun (m : Nat) => V.int m))) (smU (.inr rfl)) ⟨by rw [upd_ne hne]; exact ga, by show _ = some (HO.lst (List.map (fun (m : Nat) => V.int m) (g.ns.set (g.at_ % g.ns.length) (g.ns.getD (g.at_ % g.ns.length) 0 / n.toNat)))); rw [upd_same, hcl], hne⟩
    rw [hcl] at z
    exact z
  · have hc : ¬ 1000000000000000000 ≤ cell := by have := of_decide_eq_false hb; omega
    rw [if_neg (by rw [hcl]; exact hc)] at h
    cases h
    rw [hcl] at q
    refine st_put (v := .int ((g.at_ + 1 : Nat) : Int)) (a := Γ.ga) (j := 0) ?_ (ev_v rfl) ev_c ga (by simp) ?_
    · have e := ev_op0 (f := fun i j => V.int (i + j)) (ev_at (K := K) (σ := [some (.ref Γ.ga), some (.int n), some (.ref Γ.gb), some (.int (g.at_ % g.ns.length : Nat)), some (.int (cell : Nat)), none]) (i := 0) (j := 0) rfl ev_c ga rfl) (ev_c (σ := [some (.ref Γ.ga), some (.int n), some (.ref Γ.gb), some (.int (g.at_ % g.ns.length : Nat)), some (.int (cell : Nat)), none]) (H := H) (v := .int 1))
      exact e
    generalize hH2 : upd H Γ.ga (.lst ([V.int (g.at_ : Nat), .ref Γ.gb].set 0 (.int ((g.at_ + 1 : Nat) : Int)))) = H2
    have ga2 : H2 Γ.ga = some (.lst [.int ((g.at_ + 1 : Nat) : Int), .ref Γ.gb]) := by rw [← hH2]; exact upd_same
    have gb2 : H2 Γ.gb = some (.lst (g.ns.map fun (m : Nat) => V.int m)) := by rw [← hH2, upd_ne (Ne.symm hne)]; exact gb
    have sm2 : Sm Γ H H2 := by rw [← hH2]; exact smU (.inl rfl)
    have step : ∀ (σ : L2.St) (i x m1 m2 : Nat) (md : Nat), σ[i]? = some (some (.int (x : Nat))) → σ[0]? = some (some (.ref Γ.ga)) → 0 < md → m1 < 1000000 → m2 < 1000000 →
        Ev (tOp rR (tInt (tOp rP (tOp rM (tVar i) (tC (.int (m1 : Nat)))) (tOp rM (tAt K 0 (tC (.int 0))) (tC (.int (m2 : Nat)))))) (tC (.int (md : Nat)))) σ H2 (.int (((x * m1 + (g.at_ + 1) * m2) % md : Nat) : Int)) := fun σ i x m1 m2 md h1 h0 h3 h4 h5 => by
      have e := ev_op (C := fun _ j => (0 : Int) < j) (f := fun i j => V.int (i % j)) (evp_int (ev_op0 (f := fun i j => V.int (i + j)) (ev_op (C := CMul) (f := fun i j => V.int (i * j)) (ev_v (H := H2) h1) (ev_c (v := .int (m1 : Nat))) (by unfold CMul; omega))
        (ev_op (C := CMul) (f := fun i j => V.int (i * j)) (ev_at (K := K) (j := 0) h0 (ev_c (v := .int ((0 : Nat) : Int))) ga2 rfl) (ev_c (v := .int (m2 : Nat))) (by unfold CMul; omega)))) (ev_c (v := .int (md : Nat))) (by show (0 : Int) < (md : Nat); omega)
      have z : (((x * m1 + (g.at_ + 1) * m2) % md : Nat) : Int) = ((x : Nat) * (m1 : Nat) + ((g.at_ + 1 : Nat) : Int) * (m2 : Nat)) % (md : Nat) := by simp
      rw [z]
      exact e
    refine st_set (step _ 4 cell 48271 69621 2147483647 rfl rfl (by omega) (by omega) (by omega)) ?_
    refine st_set (step _ 5 ((cell * 48271 + (g.at_ + 1) * 69621) % 2147483647) 16807 7919 1000000007 rfl rfl (by omega) (by omega) (by omega)) ?_
    refine st_ret (ev_op (evp_int (ev_op (ev_v (v := .int ((((cell * 48271 + (g.at_ + 1) * 69621) % 2147483647 * 16807 + (g.at_ + 1) * 7919) % 1000000007 : Nat) : Int)) rfl) ev_c (by unfold CDiv; omega))) (ev_v (v := .int n) rfl) (by show (0 : Int) < n; omega)) ?_
    generalize (((cell * 48271 + (g.at_ + 1) * 69621) % 2147483647 * 16807 + (g.at_ + 1) * 7919) % 1000000007) = s2 at q
    have e2 : ((s2 : Nat) : Int) / 7 % n = ((s2 / 7 % n.toNat : Nat) : Int) := by rw [Int.natCast_emod, Int.natCast_ediv, hnn]; rfl
    rw [e2]
    exact q _ sm2 ⟨ga2, gb2, hne⟩
end
end Pu
set_option Elab.async false
set_option maxRecDepth 100000
set_option maxHeartbeats 8000000
set_option linter.all false
/-! P15: the draws' defs as they stand in a row; the law's own def. -/
namespace Pu
open PySem PySem.Spec PyProof.Rows L2

section
variable {P : Program} {w : World} {K : PySem.W.Frag} {mg : Str → Option Value} {base : Heap}
/-- a body that draws -/
def TakeBody (b : List Stmt) : Prop := ∀ X, TakeX X → PSs X b (tTake X.K)
theorem takeV_some {ds : List D} {g g' : G} {r : Vl} (h : takeV ds g = some (r, g')) : ∃ n i, ds = [.int n] ∧ takeG g n = some (i, g') ∧ r = .sh (.int i) := by
  unfold takeV at h
  split at h
  · simp only [Option.map_eq_some_iff] at h
    obtain ⟨⟨i, g1⟩, h1, h2⟩ := h
    cases h2
    exact ⟨_, i, rfl, h1, rfl⟩
  · cases h
theorem take_at {p : Prog} {cst : Str → Option Vl} {d : He.DefD} {fd : FuncData} {k : Nat} (hb : TakeBody d.body) (S : FnScope takeN ["state", "most"] d.scope) (hl : ∀ x ∈ takeN, d.scope.names.lookup x = some .local) (hi : d.scope.names.lookup ("int" : Str) = some NameKind.globalImplicit) (hn : d.scope.names.lookup ("len" : Str) = some NameKind.globalImplicit)
    (mi : mg "int" = none) (ml : mg "len" = none) (bn : ∀ (kV doc pm : Value) (an : Option Addr) (cdv ct : Value) (us : List Value), us.length = (["state", "most"] : List Str).length → bindArgs (PySem.W.fnOf d.name d.qual d.params d.body d.scope .none kV doc pm an cdv ct) ⟨us, []⟩ = pure ((["state", "most"] : List Str).zip us))
    (FD : FunD K d.name d.qual d.params d.body d.scope [] (d.kws K) (He.fAd K d.at_) fd) (hm : mg "_law_take" = some (.ref (He.fAd K d.at_))) : FnAt P w K mg base p cst (k + 1) "_law_take" true 2 := by
  refine ⟨_, fd, ["state", "most"], hm, FD.kp, FD.bindsN bn, FD.ok S (fun vs H Q E h => h.1) fun cdv A outer s H vs Q E hr h => ?_⟩
  obtain ⟨hl2, Γ, g, ds, r, g', ra, go, hc, q⟩ := h
  refine ⟨tTake K, PSs.nox (hb _ ⟨rfl, hl, fun _ => rfl, ⟨hi, mi⟩, ⟨hn, ml⟩⟩), ?_⟩
  have e : call p cst (k + 1) "_law_take" true ds g = takeV ds g := by
    unfold call
    rw [if_pos rfl, if_pos rfl]
  have hc : call p cst (k + 1) "_law_take" true ds g = some (r, g') := hc
  rw [e] at hc
  obtain ⟨n, i, rfl, ht, rfl⟩ := takeV_some hc
  obtain ⟨ws, rfl, rw'⟩ := ra
  cases rw' with
  | cons h1 h2 =>
    cases h2
    cases h1
    exact t_take go ht fun H' sm go' => q _ H' sm go' (.int i)

/-! ### the first draws -/
def stateT (p0 p1 p2 p3 p4 p5 p6 p7 p8 p9 p10 p11 p12 p13 p14 p15 p16 p17 p18 p19 p20 p21 p22 p23 p24 : Pos) (j0 : Nat) (sc : Scope) : List Stmt :=
  [.Assign [.Name "numbers_left" p0] (.ListComp (.Call (.Name "abs" p1) [.Name "cell" p2] [] p3) [⟨.Name "cell" p4, .Subscript (.Name "script" p5) (.Slice none (some (.Constant (.int 63) j0 p6)) none p7) p8, [], 0⟩] sc p9) p10,
   .If (.Compare (.Call (.Name "len" p11) [.Name "numbers_left" p12] [] p13) [.Eq] [.Constant (.int 0) 0 p14] p15) [.Assign [.Name "numbers_left" p16] (.List [.Constant (.int 0) 0 p17] p18) p19] [] p20,
   .Return (some (.List [.Constant (.int 0) 0 p21, .Name "numbers_left" p22] p23)) p24]
def stateN : List Str := ["script", "numbers_left", "cell"]
abbrev tAbs (te : TE) : TE := tCB (fun xs H Q => ∃ i, xs = [.int i] ∧ Q (.int (if i < 0 then -i else i)) H) (tCons te tNil)
def tCut (K : PySem.W.Frag) : TE := tSl (rSlL K) (tVar 0) tNoPart (tPart (tC (.int 63)))
def tState (K : PySem.W.Frag) : TS :=
  tSeq (tAsg (tLc (iList K (tCut K)) (gName 2) tYes (tAbs (tVar 2)) [2]) (gName 1))
    (tSeq (tIfS (tTest (tOp rEq (tLen K (tVar 1)) (tC (.int 0)))) (tAsg (tLst (tCons (tC (.int 0)) tNil)) (gName 1)) tNext) (tRet (tLst (tCons (tC (.int 0)) (tCons (tVar 1) tNil)))))
structure StateX (X : Cx) : Prop where
  N : X.N = stateN
  loc : ∀ x ∈ stateN.take 2, X.env.scope.names.lookup x = some .local
  fn : ∀ x, X.fn x = true
  kind : X.env.scope.kind = .function
  abs : X.mg "abs" = none
  len : Gl X "len" ∧ X.mg "len" = none
  calm : X.calm = true
def StateBody (b : List Stmt) : Prop := ∀ X, StateX X → PSs X b (tState X.K)
theorem StateX.nd {X : Cx} (T : StateX X) : X.N.Nodup := by rw [T.N]; decide +kernel
theorem StateX.var {X : Cx} (T : StateX X) (i : Nat) {x : Str} {pos : Pos} (h : (stateN.take 2)[i]? = some x) (h0 : stateN[i]? = some x) (h1 : (x == ("__debug__" : Str)) = false := by decide +kernel) (h2 : (x == ("__classdict__" : Str)) = false := by decide +kernel) : PE X (.Name x pos) (tVar i) :=
  pe_var (by rw [T.N]; exact h0) (.inl (T.loc x (List.mem_of_getElem? h))) h1 h2
theorem StateX.toLen {X : Cx} (T : StateX X) {e : Expr} {te : TE} {p0 pos : Pos} (he : PE X e te) (hs : noStar e = true := by rfl) : PE X (.Call (.Name "len" p0) [e] [] pos) (tLen X.K te) :=
  pe_callB call_len_seq T.len.1 T.len.2 (by decide +kernel) (pa_cons he pa_nil (star_cons hs)) (by decide +kernel) (by decide +kernel) (star_cons hs) rfl
theorem state_pss {p0 p1 p2 p3 p4 p5 p6 p7 p8 p9 p10 p11 p12 p13 p14 p15 p16 p17 p18 p19 p20 p21 p22 p23 p24 : Pos} {j0 : Nat} {sc : Scope} {X : Cx} (T : StateX X) (hl : (p0.line == p9.line) = true) (hb : ∀ s : Scope, blkC stateN s sc [("cell", 2)] = true) (hcl : sc.names.lookup ("cell" : Str) = some NameKind.local) (hab : sc.names.lookup ("abs" : Str) = some NameKind.globalImplicit)
    (hnl : (sc.names.any fun (n, k) => n == "numbers_left" && (k == .local || k == .cell)) = false) : PSs X (stateT p0 p1 p2 p3 p4 p5 p6 p7 p8 p9 p10 p11 p12 p13 p14 p15 p16 p17 p18 p19 p20 p21 p22 p23 p24 j0 sc) (tState X.K) := by
  have v0 : ∀ {pos}, PE X (.Name "script" pos) (tVar 0) := fun {pos} => T.var 0 rfl rfl
  have v1 : ∀ {pos}, PE X (.Name "numbers_left" pos) (tVar 1) := fun {pos} => T.var 1 rfl rfl
  have l1 : X.env.scope.names.lookup ("numbers_left" : Str) = some .local := T.loc _ (by decide +kernel)
  have lk : (relS sc X.env.scope).names.lookup ("cell" : Str) = some .local := lookup_relS_keep (by decide) hcl
  have lka : (relS sc X.env.scope).names.lookup ("abs" : Str) = some .globalImplicit := lookup_relS_keep (by decide) hab
  refine pss_cons (ps_setLc (own := [("cell", 2)]) T.calm T.nd (by rw [T.N]; rfl) l1 (sw_true T.kind l1 hl hnl) (pi_list (pe_slice sl_list v0 po_none (po_some pe_int))) (by rw [T.N]; exact blkOk_by (hb _)) (fun s H C cl fp => ?_) (fun s H C cl fp => pts_nil) (fun s H C cl fp => ?_) (noSet_ok rfl _)) ?_
  · exact pg_name (by show X.N.Nodup; exact T.nd) (by show X.N[2]? = _; rw [T.N]; rfl) (.inl lk) (.inr lk)
  · refine pe_callB (X := X.blk s H sc (compEnvC sc cl C X.env) fp) call_abs lka T.abs (by decide +kernel) (pa_cons (pe_var (i := 2) (by show X.N[2]? = _; rw [T.N]; rfl) (.inl lk) (by decide +kernel) (by decide +kernel)) pa_nil rfl) (by decide +kernel) (by decide +kernel) rfl rfl
  refine pss_cons (ps_if (pt_cmpR op_eq (T.toLen v1) pe_int (nomark _)) (pss_one (ps_set T.nd (by rw [T.N]; rfl) (.inl l1) (pe_lst (pa_cons pe_int pa_nil rfl)) rfl (.inl (T.fn _)))) pss_nil) ?_
  exact pss_one (ps_ret (pe_lst (pa_cons pe_int (pa_cons v1 pa_nil rfl) rfl)))
end
end Pu
set_option Elab.async false
set_option maxRecDepth 100000
set_option maxHeartbeats 8000000
set_option linter.all false
/-! P16: what the first draws are; the law's own def. -/
namespace Pu
open PySem PySem.Spec PyProof.Rows L2

theorem tc_abs {σ : L2.St} {H : Hp} {z : Int} (h : σ[2]? = some (some (.int z))) : Ev (tAbs (tVar 2)) σ H (.int (z.natAbs : Nat)) := fun Q q => by
  refine ⟨_, h, z, rfl, ?_⟩
  have e : (if z < 0 then -z else z) = ((z.natAbs : Nat) : Int) := by split <;> omega
  rw [e]
  exact q
theorem cut63 (xs : List Int) : ∃ zs : List Int, zs.length ≤ 63 ∧ cutV (xs.map V.int) none (some 63) = zs.map V.int := by
  refine ⟨xs.take 63, by rw [List.length_take]; omega, ?_⟩
  unfold cutV
  have e0 : ∀ n d, HT.sIx n d none = d := fun n d => rfl
  rw [e0, List.drop_zero, Nat.sub_zero]
  have h2 : HT.sIx (xs.map V.int).length (xs.map V.int).length (some 63) = min 63 xs.length := by
    rw [List.length_map]
    unfold HT.sIx
    simp
    try omega
  rw [h2]
  rw [← List.map_take]
  congr 1
  by_cases h : xs.length ≤ 63
  · rw [Nat.min_eq_right h, List.take_of_length_le (Nat.le_refl _), List.take_of_length_le h]
  · rw [Nat.min_eq_left (by omega)]
theorem t_state {K : PySem.W.Frag} {H : Hp} {a : Addr} {xs : List Int} {Q : VK} {nx : L2.St → Hp → Prop} (hs : SqL K H a (xs.map V.int)) (q : ∀ Γ g H', GenOk Γ H' g → Q (.ref Γ.ga) H') : tState K { nx := nx, rt := Q } [some (.ref a), none, none] H := by
  obtain ⟨zs, hz, hcut⟩ := cut63 xs
  unfold tState tSeq tAsg
  refine ⟨_, rfl, ⟨_, rfl, a, _, rfl, hs, fun p hp => ⟨p, rfl, ⟨_, SqL.of upd_same⟩, fun D hD => ?_⟩⟩⟩
  rw [hcut] at hD ⊢
  have hpD : p ≠ D := fun e => by rw [e, upd_same] at hD; cases hD
  generalize hH1 : upd H p (.lst (zs.map V.int)) = H1 at hD
  have hp1 : H1 p = some (.lst (zs.map V.int)) := by rw [← hH1]; exact upd_same
  refine lc_list (K := K) (xs := zs.map V.int) (fun i H' => H' p = some (.lst (zs.map V.int)) ∧ H' D = some (.lst ((zs.take i).map fun z => V.int ((z.natAbs : Nat) : Int)))) ⟨by rw [upd_ne hpD]; exact hp1, by rw [upd_same]; rfl⟩ (fun i H' _ h => SqL.of h.1) (fun i x H' hx h => ?_) fun H' h => ?_
  · rw [List.getElem?_map] at hx
    obtain ⟨z, hzi, hx⟩ := Option.map_eq_some_iff.mp hx
    subst hx
    have hlt : i < zs.length := by
      rcases List.getElem?_eq_some_iff.mp hzi with ⟨h, _⟩
      exact h
    refine ⟨rfl, ?_⟩
    unfold tYes
    dsimp only
    rw [if_pos rfl]
    refine tc_abs (z := z) rfl _ ⟨_, h.2, ?_, by rw [upd_ne hpD]; exact h.1, ?_⟩
    · rw [List.length_map, List.length_take, sizeLine_eq]; omega
    · rw [upd_same, List.take_add_one, hzi]
      simp
  · have hD' : H' D = some (.lst (zs.map fun z => V.int ((z.natAbs : Nat) : Int))) := by
      have := h.2
      rw [List.length_map, List.take_of_length_le (Nat.le_refl _)] at this
      exact this
    have fin : ∀ (D2 : Addr) (H2 : Hp) (ns : List Nat), ns ≠ [] → H2 D2 = some (.lst (ns.map fun (n : Nat) => V.int n)) → tRet (tLst (tCons (tC (.int 0)) (tCons (tVar 1) tNil))) { nx := nx, rt := Q } [some (.ref a), some (.ref D2), none] H2 := fun D2 H2 ns hn h2 => by
      refine ⟨_, rfl, by rw [sizeLine_eq]; simp, fun b hb => ?_⟩
      have ne : D2 ≠ b := fun e => by rw [e, hb] at h2; cases h2
      exact q ⟨b, D2⟩ ⟨0, ns, hn⟩ _ ⟨upd_same, by rw [upd_ne ne]; exact h2, Ne.symm ne⟩
    have hns : (zs.map fun z => V.int ((z.natAbs : Nat) : Int)) = (zs.map Int.natAbs).map fun (n : Nat) => V.int n := by rw [List.map_map]; rfl
    dsimp only [gName, tIfS, tTest, tOp]
    refine ev_len (K := K) (ev_v (i := 1) rfl) hD' _ ?_
    refine ⟨rfl, ?_⟩
    refine ⟨_, rfl, ?_⟩
    rw [List.length_map]
    split
    · rename_i hb
      refine ⟨by rw [sizeLine_eq]; simp, fun b hb => ?_⟩
      exact fin b _ [0] (by simp) upd_same
    · rename_i hb
      refine fin D H' (zs.map Int.natAbs) (fun e => hb ?_) (by rw [← hns]; exact hD')
      rw [List.map_eq_nil_iff] at e
      subst e
      rfl
section
variable {P : Program} {w : World} {K : PySem.W.Frag} {mg : Str → Option Value} {base : Heap}
def spState (K : PySem.W.Frag) : Sp := fun vs H Q _ => ∃ (a : Addr) (xs : List Int), vs = [.ref a] ∧ SqL K H a (xs.map V.int) ∧ ∀ Γ g H', GenOk Γ H' g → Q (.ref Γ.ga) H'
theorem state_at {d : He.DefD} {fd : FuncData} {k : Nat} (hb : StateBody d.body) (S : FnScope stateN ["script"] d.scope) (hl : ∀ x ∈ stateN.take 2, d.scope.names.lookup x = some .local) (hn : d.scope.names.lookup ("len" : Str) = some NameKind.globalImplicit) (ma : mg "abs" = none) (ml : mg "len" = none)
    (FD : FunD K d.name d.qual d.params d.body d.scope [] (d.kws K) (He.fAd K d.at_) fd) : FnOk P w K mg base C8.CX0 (k + 1) (He.fAd K d.at_) fd ["script"] (spState K) :=
  FD.ok S (fun vs H Q E h => by obtain ⟨a, xs, rfl, _⟩ := h; rfl) fun cdv A outer s H vs Q E hr h => by
    refine ⟨tState K, PSs.nox (hb _ ⟨rfl, hl, fun _ => rfl, S.kind, ma, ⟨hn, ml⟩, rfl⟩), ?_⟩
    obtain ⟨a, xs, rfl, hs, q⟩ := h
    exact t_state hs q
/-- the law's promise -/
def spLaw (K : PySem.W.Frag) : Sp := fun vs H Q _ => ∃ (a : Addr) (xs : List Int), vs = [.ref a] ∧ SqL K H a (xs.map V.int) ∧ ∀ H', Q (.bl true) H'
/-- the law's def: its first line takes the numbers, the rest agrees with S, and S comes to True whatever is drawn -/
theorem law_at {fs : List (Str × Bool × Nat)} {cs : List Str} {p : Prog} {cst : Str → Option Vl} {d ds : He.DefD} {fd fds : FuncData} {N : List Str} {S : S} {rest : List Stmt} {k : Nat} {p0 p1 p2 p3 p4 : Pos} (hbody : d.body = .Assign [.Name "state" p0] (.Call (.Name "_law_state" p1) [.Name "script" p2] [] p3) p4 :: rest)
    (SC : FnScope N ["script"] d.scope) (h1 : N[0]? = some ("script" : Str)) (h2 : N[1]? = some ("state" : Str)) (l1 : d.scope.names.lookup ("script" : Str) = some .local) (l2 : d.scope.names.lookup ("state" : Str) = some .local) (lg : d.scope.names.lookup ("_law_state" : Str) = some .globalImplicit) (hN : 2 ≤ N.length)
    (M : Mods K mg cs cst) (ih : ∀ f gen n, (f, gen, n) ∈ fs → FnAt P w K mg base p cst k f gen n) (hck : ckS ⟨N, fs, cs⟩ d.scope S (.many rest) = true)
    (FD : FunD K d.name d.qual d.params d.body d.scope [] (d.kws K) (He.fAd K d.at_) fd) (FS : FunD K ds.name ds.qual ds.params ds.body ds.scope [] (ds.kws K) (He.fAd K ds.at_) fds) (hms : mg "_law_state" = some (.ref (He.fAd K ds.at_)))
    (OS : FnOk P w K mg base C8.CX0 k (He.fAd K ds.at_) fds ["script"] (spState K)) (bs : Binds K fds ["script"] [])
    (math : ∀ g : G, ∃ ρ' g', ex (cfOf p cst k) S (none :: some .gen :: List.replicate (N.length - 2) none) g = some (.rt (.sh (.bool true)), ρ', g')) :
    FnOk P w K mg base C8.CX0 (k + 1) (He.fAd K d.at_) fd ["script"] (spLaw K) :=
  FD.ok SC (fun vs H Q E h => by obtain ⟨a, xs, rfl, _⟩ := h; rfl) fun cdv A outer sE HE vs Q E hr h => by
    obtain ⟨a, xs, rfl, hs, q⟩ := h
    refine ⟨tSeq (tAsg (tCall (spState K) [] C8.E0 (tCons (tVar 0) tNil)) (gName 1)) (fun D σ H => ∃ Γ H0, tS K Γ H0 (cfOf p cst k) S D σ H), PSs.nox ?_, ?_⟩
    · rw [hbody]
      refine pss_cons ?_ ?_
      · exact ps_set (i := 1) SC.nd h2 (.inl l2) (pe_call (dvs := []) (E := C8.E0) OS hr lg hms FS.kp bs .nil C8.pass0 (pa_cons (pe_var (i := 0) h1 (.inl l1) (by decide +kernel) (by decide +kernel)) pa_nil rfl) (by decide +kernel) rfl rfl) rfl (.inl rfl)
      · refine ⟨fun pins s σ H D I hq => ?_⟩
        obtain ⟨Γ, H0, hq⟩ := hq
        have snd : SndS _ Γ H0 (cfOf p cst k) S (.many rest) := soundS (C := ⟨N, fs, cs⟩) (c := cfOf p cst k) (k := k) (sc := d.scope) (X := (cxOf C8.CX0 P w K mg base N d.qual d.scope (He.fAd K d.at_) cdv A outer sE HE E).nox) ⟨⟨rfl, SC.nd, rfl, rfl, hr, fun f gen n hf => by
          obtain ⟨fa, fd, ps, h1, h2, h3, h4⟩ := ih f gen n hf
          exact ⟨fa, fd, ps, h1, h2, h3, h4⟩, M.cst, M.blt⟩, fun _ => rfl, rfl, SC.kind⟩ S (.many rest) hck
        exact snd.run pins s σ H D I hq
    · refine ⟨_, rfl, a, xs, rfl, hs, fun Γ g H' go => ?_⟩
      obtain ⟨ρ', g', hm⟩ := math g
      refine ⟨Γ, H', _, g, _, ρ', g', ⟨⟨?_, fun i u hi => ?_, fun i j u w v _ hi _ o1 _ _ _ => ?_⟩, go, Sm.refl _ _⟩, hm, fun u H2 sm go2 nr => ?_⟩
      · unfold L2.start
        simp
        omega
      · match i with
        | 0 => cases hi
        | 1 =>
          cases hi
          refine ⟨.ref Γ.ga, ?_, rfl⟩
          unfold L2.start
          rw [List.getElem?_set_self (by simp; omega)]
        | i + 2 =>
          simp only [List.getElem?_cons_succ, List.getElem?_replicate] at hi
          split at hi <;> cases hi
      · match i with
        | 0 => cases hi
        | 1 =>
          cases hi
          cases o1
        | i + 2 =>
          simp only [List.getElem?_cons_succ, List.getElem?_replicate] at hi
          split at hi <;> cases hi
      · cases nr
        exact q H2
end
end Pu
set_option Elab.async false
set_option maxRecDepth 100000
set_option maxHeartbeats 8000000
set_option linter.all false
/-! P17: all defs of a row at once; the row's constants; what the head tells. -/
namespace Pu
open PySem PySem.Spec PyProof.Rows L2

structure Ent where
  f : Str
  gen : Bool
  n : Nat
  d : He.DefD
  F : Fn
  N : List Str
  ps : List Str
def Ent.sig (e : Ent) : Str × Bool × Nat := (e.f, e.gen, e.n)
section
variable {P : Program} {w : World} {K : PySem.W.Frag} {mg : Str → Option Value} {base : Heap}
theorem all_at {tab : List Ent} {fs : List (Str × Bool × Nat)} {cs : List Str} {p : Prog} {cst : Str → Option Vl} (hfs : fs = (("_law_take" : Str), true, 2) :: tab.map Ent.sig) (hT : ∀ e ∈ tab, FnD fs cs p e.f e.gen e.n e.d e.F e.N e.ps)
    (hm : ∀ e ∈ tab, ∃ fd, FunD K e.d.name e.d.qual e.d.params e.d.body e.d.scope [] (e.d.kws K) (He.fAd K e.d.at_) fd ∧ mg e.f = some (.ref (He.fAd K e.d.at_))) (take : ∀ k, FnAt P w K mg base p cst k "_law_take" true 2) (M : Mods K mg cs cst) :
    ∀ (k : Nat) (f : Str) (gen : Bool) (n : Nat), (f, gen, n) ∈ fs → FnAt P w K mg base p cst k f gen n := by
  intro k
  induction k with
  | zero =>
    intro f gen n h
    rw [hfs] at h
    rcases List.mem_cons.mp h with h | h
    · cases h
      exact take 0
    · obtain ⟨e, he, h⟩ := List.mem_map.mp h
      cases h
      obtain ⟨fd, h1, h2⟩ := hm e he
      exact at_zero (hT e he).len (hT e he).binds h1 h2
  | succ k ih =>
    intro f gen n h
    rw [hfs] at h
    rcases List.mem_cons.mp h with h | h
    · cases h
      exact take (k + 1)
    · obtain ⟨e, he, h⟩ := List.mem_map.mp h
      cases h
      obtain ⟨fd, h1, h2⟩ := hm e he
      exact body_ok (hT e he) M ih h1 h2
/-! ### constants of the row -/
mutual
def cB (K : PySem.W.Frag) : D → Value → Bool
  | .none, .none => true
  | .bool b, .bool c => decide (b = c)
  | .int i, .int j _ => decide (i = j)
  | .str x, .str y _ => decide (x = y)
  | .tuple ds, .ref a => match K.lookup a with
    | some ⟨.type c, _, .seq its _, _⟩ => decide (c = "tuple") && (decide (its.size ≤ sizeLine) && cBs K ds its.toList)
    | _ => false
  | _, _ => false
def cBs (K : PySem.W.Frag) : List D → List Value → Bool
  | [], [] => true
  | d :: ds, u :: us => cB K d u && cBs K ds us
  | _, _ => false
end
mutual
theorem cB_ok : ∀ {d : D} {u : Value}, cB K d u = true → ∃ v, RelV v u ∧ ∀ H, Rep K H v d
  | .none, .none, _ => ⟨.non, rfl, fun _ => .non⟩
  | .bool b, .bool c, h => ⟨.bl b, by rw [of_decide_eq_true h]; rfl, fun _ => .bl b⟩
  | .int i, .int j t, h => ⟨.int i, ⟨t, by rw [of_decide_eq_true h]⟩, fun _ => .int i⟩
  | .str x, .str y t, h => ⟨.str x, ⟨t, by rw [of_decide_eq_true h]⟩, fun _ => .str x⟩
  | .tuple ds, .ref a, h => by
    unfold cB at h
    split at h
    · rename_i c od its n osl q
      simp only [Bool.and_eq_true, decide_eq_true_eq] at h
      obtain ⟨h1, h2, h3⟩ := h
      obtain ⟨vs, r1, r2⟩ := cBs_ok h3
      exact ⟨.ref a, rfl, fun H => .tup (.inr ⟨_, its, n, q, congrArg Value.type h1, rfl, h2, r1⟩) (r2 H)⟩
    · cases h
theorem cBs_ok : ∀ {ds : List D} {us : List Value}, cBs K ds us = true → ∃ vs, Vals vs us ∧ ∀ H, RepAll K H vs ds
  | [], [], _ => ⟨[], .nil, fun _ => .nil⟩
  | d :: ds, u :: us, h => by
    obtain ⟨h1, h2⟩ := He.ba (show (cB K d u && cBs K ds us) = true from h)
    obtain ⟨v, r1, r2⟩ := cB_ok h1
    obtain ⟨vs, s1, s2⟩ := cBs_ok h2
    exact ⟨v :: vs, .cons r1 s1, fun H => .cons (r2 H) (s2 H)⟩
end
def cstB (K : PySem.W.Frag) (p : Str × D) : Bool := match PySem.W.nsIn K mainGlobals p.1 with
  | some (some u) => cB K p.2 u
  | _ => false
/-! ### the Hook -/
def obsC (fs : List Str) (cb : List (Str × D)) (fn : List He.DefD) (K : PySem.W.Frag) : He.AlD := ((fs.all fun f => (He.Fa.glo f).ok K) && ((blts.all fun f => (He.Fa.free f).ok K) && ((cb.all fun p => cstB K p) && fn.all fun d => d.ok K)), fn.map fun d => He.fnW K d.at_)
def obsCG (n : Nat) (fs : List Str) (cb : List (Str × D)) (fn : List He.DefD) (g : Addr → Option Obj) : He.AlD := obsC fs cb fn (He.frG g (He.asD g n))
def hookC (n : Nat) (fs : List Str) (cb : List (Str × D)) (fn : List He.DefD) : PySem.W.Hook where
  α := He.AlD
  obs := fun s => obsCG n fs cb fn s.heap.get?
  val := fun _ => He.valD fn
  says := fun _ h => ∃ K : PySem.W.Frag, K.In h ∧ obsC fs cb fn K = He.valD fn
  of := fun _ _ e => ⟨_, He.frG_in, e⟩
  keeps := fun _ _ _ ⟨K, hK, c⟩ k => ⟨K, PySem.W.Frag.In.keeps hK k, c⟩
theorem obsCG_eq {n : Nat} {fs : List Str} {cb : List (Str × D)} {fn : List He.DefD} {g : Addr → Option Obj} {s : Shared} (h : ∀ a, g a = s.heap.get? a) : obsCG n fs cb fn g = (hookC n fs cb fn).obs s := by
  have e : g = s.heap.get? := funext h
  rw [e] <;> rfl
theorem saysC {fs : List Str} {cb : List (Str × D)} {fn : List He.DefD} {h : Heap} (c : obsC fs cb fn K = He.valD fn) (X : K.In h) (Gn : h.Ns mainGlobals mg) :
    (∀ f ∈ fs, mg f = some (.ref (He.ga K f))) ∧ (∀ x ∈ blts, mg x = none) ∧ (∀ p ∈ cb, ∃ u v, mg p.1 = some u ∧ RelV v u ∧ ∀ H, Rep K H v p.2) ∧
      ∀ d ∈ fn, ∃ fd, FunD K d.name d.qual d.params d.body d.scope (d.dvs K) (d.kws K) (He.fAd K d.at_) fd := by
  have c1 := congrArg (fun z : He.AlD => z.1) c
  have c2 : (fn.map fun d => He.fnW K d.at_) = fn.map He.DefD.val := congrArg (fun z : He.AlD => z.2) c
  obtain ⟨a1, c1⟩ := He.ba (show ((fs.all fun f => (He.Fa.glo f).ok K) && ((blts.all fun f => (He.Fa.free f).ok K) && ((cb.all fun p => cstB K p) && fn.all fun d => d.ok K))) = true from c1)
  obtain ⟨a2, c1⟩ := He.ba c1
  obtain ⟨a3, a4⟩ := He.ba c1
  refine ⟨fun f hf => He.glo_ok X Gn (List.all_eq_true.mp a1 f hf), fun x hx => He.free_ok X Gn (List.all_eq_true.mp a2 x hx), fun p hp => ?_, fun d hd => ?_⟩
  · have h1 := List.all_eq_true.mp a3 p hp
    unfold cstB at h1
    split at h1
    · rename_i u hu
      obtain ⟨v, r1, r2⟩ := cB_ok h1
      exact ⟨u, v, PySem.W.mg_of X Gn hu, r1, r2⟩
    · cases h1
  · obtain ⟨i, hi⟩ := List.getElem?_of_mem hd
    have e2 : (fn.map fun d => He.fnW K d.at_)[i]? = (fn.map He.DefD.val)[i]? := by rw [c2]
    rw [List.getElem?_map, List.getElem?_map, hi] at e2
    exact He.DefD.funD (Option.some.inj e2) (List.all_eq_true.mp a4 d hd)
end
end Pu
set_option Elab.async false
set_option maxRecDepth 100000
set_option linter.all false
namespace K04
open Pu PySem

def N_lock_number : List Str := ["world", "lock", "k"]
def F_lock_number : Fn := ⟨false, 2, 3,
  (.seq (.if_ (.cm .eq (.ix (.nm 1) (.int 0)) (.str "door")) (.seq (.re (.ix (.nm 1) (.int 1))) .nop) .nop) (.seq (.re (.bi .add (.bf .len (.cons (.ix (.nm 0) (.int 3)) .nil)) (.bf .len (.cons (.lc (.nm 2) (.r1 (.ix (.nm 1) (.int 1))) (.cm .eq (.ix (.ix (.ix (.nm 0) (.int 4)) (.nm 2)) (.int 2)) (.str "box")) (.nm 2)) .nil)))) .nop))⟩
def N_lamp_number : List Str := ["world", "thing", "k"]
def F_lamp_number : Fn := ⟨false, 2, 3,
  (.seq (.re (.bf .len (.cons (.lc (.nm 2) (.r1 (.nm 1)) (.cm .eq (.ix (.ix (.ix (.nm 0) (.int 4)) (.nm 2)) (.int 2)) (.str "lamp")) (.nm 2)) .nil))) .nop)⟩
def N_holds : List Str := ["world", "state", "condition", "word"]
def F_holds : Fn := ⟨false, 3, 4,
  (.seq (.as_ 3 (.ix (.nm 2) (.int 0))) (.seq (.if_ (.cm .in_ (.nm 3) (.tu (.cons (.str "always") (.cons (.str "never") .nil)))) (.seq (.re (.cm .eq (.nm 3) (.str "always"))) .nop) .nop) (.seq (.if_ (.cm .eq (.nm 3) (.str "not")) (.seq (.re (.no (.ca "holds" none (.cons (.nm 0) (.cons (.nm 1) (.cons (.ix (.nm 2) (.int 1)) .nil)))))) .nop) .nop) (.seq (.if_ (.cm .eq (.nm 3) (.str "and")) (.seq (.re (.an (.ca "holds" none (.cons (.nm 0) (.cons (.nm 1) (.cons (.ix (.nm 2) (.int 1)) .nil)))) (.ca "holds" none (.cons (.nm 0) (.cons (.nm 1) (.cons (.ix (.nm 2) (.int 2)) .nil)))))) .nop) .nop) (.seq (.if_ (.cm .eq (.nm 3) (.str "or")) (.seq (.re (.or (.ca "holds" none (.cons (.nm 0) (.cons (.nm 1) (.cons (.ix (.nm 2) (.int 1)) .nil)))) (.ca "holds" none (.cons (.nm 0) (.cons (.nm 1) (.cons (.ix (.nm 2) (.int 2)) .nil)))))) .nop) .nop) (.seq (.re (.ca "single" none (.cons (.nm 0) (.cons (.nm 1) (.cons (.nm 2) .nil))))) .nop))))))⟩
def N_single : List Str := ["world", "state", "condition", "word"]
def F_single : Fn := ⟨false, 3, 4,
  (.seq (.as_ 3 (.ix (.nm 2) (.int 0))) (.seq (.if_ (.cm .eq (.nm 3) (.str "at")) (.seq (.re (.cm .eq (.ix (.nm 1) (.int 1)) (.ix (.nm 2) (.int 1)))) .nop) .nop) (.seq (.if_ (.cm .eq (.nm 3) (.str "has")) (.seq (.re (.cm .eq (.ix (.ix (.nm 1) (.int 2)) (.ix (.nm 2) (.int 1))) (.tu (.cons (.str "held") .nil)))) .nop) .nop) (.seq (.if_ (.cm .eq (.nm 3) (.str "lies")) (.seq (.re (.cm .eq (.ix (.ix (.nm 1) (.int 2)) (.ix (.nm 2) (.int 1))) (.ix (.nm 2) (.int 2)))) .nop) .nop) (.seq (.if_ (.cm .eq (.nm 3) (.str "open")) (.seq (.re (.cm .eq (.ix (.ix (.nm 1) (.int 3)) (.ca "lock_number" none (.cons (.nm 0) (.cons (.ix (.nm 2) (.int 1)) .nil)))) (.str "open"))) .nop) .nop) (.seq (.if_ (.cm .eq (.nm 3) (.str "lit")) (.seq (.re (.cm .eq (.ix (.ix (.nm 1) (.int 4)) (.ca "lamp_number" none (.cons (.nm 0) (.cons (.ix (.nm 2) (.int 1)) .nil)))) (.str "lit"))) .nop) .nop) (.seq (.if_ (.cm .eq (.nm 3) (.str "mark")) (.seq (.re (.cm .eq (.ix (.ix (.nm 1) (.int 5)) (.ix (.nm 2) (.int 1))) (.str "on"))) .nop) .nop) (.seq (.re (.ie (.cm .eq (.nm 3) (.str "=")) (.cm .eq (.ix (.ix (.nm 1) (.int 6)) (.ix (.nm 2) (.int 1))) (.ix (.nm 2) (.int 2))) (.cm .lt (.ix (.ix (.nm 1) (.int 6)) (.ix (.nm 2) (.int 1))) (.ix (.nm 2) (.int 2))))) .nop))))))))⟩
def N_is_whole : List Str := ["value", "low", "high"]
def F_is_whole : Fn := ⟨false, 3, 3,
  (.seq (.re (.an (.isi (.nm 0) .int) (.an (.no (.isi (.nm 0) .bool)) (.ch .le .le (.nm 1) (.nm 0) (.nm 2))))) .nop)⟩
def N_is_one_of : List Str := ["value", "row"]
def F_is_one_of : Fn := ⟨false, 2, 2,
  (.seq (.re (.an (.isi (.nm 0) .str) (.cm .in_ (.nm 0) (.nm 1)))) .nop)⟩
def N_is_place : List Str := ["world", "value"]
def F_is_place : Fn := ⟨false, 2, 2,
  (.seq (.if_ (.or (.no (.isi (.nm 1) .tuple)) (.cm .nin (.bf .len (.cons (.nm 1) .nil)) (.tu (.cons (.int 1) (.cons (.int 2) .nil))))) (.seq (.re (.bl false)) .nop) .nop) (.seq (.if_ (.cm .eq (.bf .len (.cons (.nm 1) .nil)) (.int 1)) (.seq (.re (.ca "is_one_of" none (.cons (.ix (.nm 1) (.int 0)) (.cons (.tu (.cons (.str "held") (.cons (.str "gone") .nil))) .nil)))) .nop) .nop) (.seq (.if_ (.cm .eq (.ix (.nm 1) (.int 0)) (.str "room")) (.seq (.re (.ca "is_whole" none (.cons (.ix (.nm 1) (.int 1)) (.cons (.int 0) (.cons (.bi .sub (.bf .len (.cons (.ix (.nm 0) (.int 1)) .nil)) (.int 1)) .nil))))) .nop) .nop) (.seq (.re (.an (.cm .eq (.ix (.nm 1) (.int 0)) (.str "box")) (.an (.ca "is_whole" none (.cons (.ix (.nm 1) (.int 1)) (.cons (.int 0) (.cons (.bi .sub (.bf .len (.cons (.ix (.nm 0) (.int 4)) .nil)) (.int 1)) .nil)))) (.cm .eq (.ix (.ix (.ix (.nm 0) (.int 4)) (.ix (.nm 1) (.int 1))) (.int 2)) (.str "box"))))) .nop))))⟩
def N_may_be : List Str := ["world", "thing", "place"]
def F_may_be : Fn := ⟨false, 3, 3,
  (.seq (.re (.or (.cm .in_ (.ix (.ix (.ix (.nm 0) (.int 4)) (.nm 1)) (.int 2)) (.tu (.cons (.str "thing") (.cons (.str "lamp") .nil)))) (.cm .in_ (.ix (.nm 2) (.int 0)) (.tu (.cons (.str "room") (.cons (.str "gone") .nil)))))) .nop)⟩
def N_boxes : List Str := ["world", "k"]
def F_boxes : Fn := ⟨false, 1, 2,
  (.seq (.re (.lc (.nm 1) (.r1 (.bf .len (.cons (.ix (.nm 0) (.int 4)) .nil))) (.cm .eq (.ix (.ix (.ix (.nm 0) (.int 4)) (.nm 1)) (.int 2)) (.str "box")) (.nm 1))) .nop)⟩
def N_lamps : List Str := ["world", "k"]
def F_lamps : Fn := ⟨false, 1, 2,
  (.seq (.re (.lc (.nm 1) (.r1 (.bf .len (.cons (.ix (.nm 0) (.int 4)) .nil))) (.cm .eq (.ix (.ix (.ix (.nm 0) (.int 4)) (.nm 1)) (.int 2)) (.str "lamp")) (.nm 1))) .nop)⟩
def N_locks : List Str := ["world", "k"]
def F_locks : Fn := ⟨false, 1, 2,
  (.seq (.re (.bi .add (.lc (.nm 1) (.r1 (.bf .len (.cons (.ix (.nm 0) (.int 3)) .nil))) (.bl true) (.tu (.cons (.str "door") (.cons (.nm 1) .nil)))) (.lc (.nm 1) (.ca "boxes" none (.cons (.nm 0) .nil)) (.bl true) (.tu (.cons (.str "box") (.cons (.nm 1) .nil)))))) .nop)⟩
def N_start : List Str := ["world", "places", "told", "lit", "marks", "counts", "row", "k"]
def F_start : Fn := ⟨false, 1, 8,
  (.seq (.as_ 1 (.bf .tuple (.cons (.lc (.nm 6) (.ix (.nm 0) (.int 4)) (.bl true) (.ix (.nm 6) (.int 3))) .nil))) (.seq (.as_ 2 (.bf .tuple (.cons (.bi .add (.lc (.nm 6) (.ix (.nm 0) (.int 3)) (.bl true) (.ix (.nm 6) (.int 5))) (.lc (.nm 7) (.ca "boxes" none (.cons (.nm 0) .nil)) (.bl true) (.ix (.ix (.ix (.ix (.nm 0) (.int 4)) (.nm 7)) (.int 4)) (.int 1)))) .nil))) (.seq (.as_ 3 (.bf .tuple (.cons (.lc (.nm 7) (.ca "lamps" none (.cons (.nm 0) .nil)) (.bl true) (.ix (.ix (.ix (.nm 0) (.int 4)) (.nm 7)) (.int 4))) .nil))) (.seq (.par [4, 5] (.cons (.bf .tuple (.cons (.lc (.nm 6) (.ix (.nm 0) (.int 6)) (.bl true) (.ix (.nm 6) (.int 1))) .nil)) (.cons (.bf .tuple (.cons (.lc (.nm 6) (.ix (.nm 0) (.int 7)) (.bl true) (.ix (.nm 6) (.int 1))) .nil)) .nil))) (.seq (.re (.tu (.cons (.str "state") (.cons (.ix (.nm 0) (.int 10)) (.cons (.nm 1) (.cons (.nm 2) (.cons (.nm 3) (.cons (.nm 4) (.cons (.nm 5) .nil))))))))) .nop)))))⟩
def N_is_state : List Str := ["world", "value", "k", "part", "one"]
def F_is_state : Fn := ⟨false, 2, 5,
  (.seq (.if_ (.or (.no (.isi (.nm 1) .tuple)) (.or (.cm .ne (.bf .len (.cons (.nm 1) .nil)) (.int 7)) (.cm .ne (.ix (.nm 1) (.int 0)) (.str "state")))) (.seq (.re (.bl false)) .nop) .nop) (.seq (.if_ (.or (.no (.ca "is_whole" none (.cons (.ix (.nm 1) (.int 1)) (.cons (.int 0) (.cons (.bi .sub (.bf .len (.cons (.ix (.nm 0) (.int 1)) .nil)) (.int 1)) .nil))))) (.no (.bf .all (.cons (.lc (.nm 3) (.sl (.nm 1) (.int 2) .nil) (.bl true) (.isi (.nm 3) .tuple)) .nil)))) (.seq (.re (.bl false)) .nop) .nop) (.seq (.if_ (.cm .ne (.lc (.nm 3) (.sl (.nm 1) (.int 2) .nil) (.bl true) (.bf .len (.cons (.nm 3) .nil))) (.ca "sizes" none (.cons (.nm 0) .nil))) (.seq (.re (.bl false)) .nop) .nop) (.seq (.fo (.nm 2) (.r1 (.bf .len (.cons (.ix (.nm 0) (.int 4)) .nil))) (.seq (.if_ (.or (.no (.ca "is_place" none (.cons (.nm 0) (.cons (.ix (.ix (.nm 1) (.int 2)) (.nm 2)) .nil)))) (.no (.ca "may_be" none (.cons (.nm 0) (.cons (.nm 2) (.cons (.ix (.ix (.nm 1) (.int 2)) (.nm 2)) .nil)))))) (.seq (.re (.bl false)) .nop) .nop) .nop)) (.seq (.if_ (.no (.bf .all (.cons (.lc (.nm 4) (.ix (.nm 1) (.int 3)) (.bl true) (.ca "is_one_of" none (.cons (.nm 4) (.cons (.gl "STATES") .nil)))) .nil))) (.seq (.re (.bl false)) .nop) .nop) (.seq (.if_ (.no (.bf .all (.cons (.lc (.nm 4) (.ix (.nm 1) (.int 4)) (.bl true) (.ca "is_one_of" none (.cons (.nm 4) (.cons (.tu (.cons (.str "lit") (.cons (.str "out") .nil))) .nil)))) .nil))) (.seq (.re (.bl false)) .nop) .nop) (.seq (.if_ (.no (.bf .all (.cons (.lc (.nm 4) (.ix (.nm 1) (.int 5)) (.bl true) (.ca "is_one_of" none (.cons (.nm 4) (.cons (.tu (.cons (.str "on") (.cons (.str "off") .nil))) .nil)))) .nil))) (.seq (.re (.bl false)) .nop) .nop) (.seq (.re (.bf .all (.cons (.lc (.nm 4) (.ix (.nm 1) (.int 6)) (.bl true) (.ca "is_whole" none (.cons (.nm 4) (.cons (.int 0) (.cons (.gl "MOST_COUNT") .nil))))) .nil))) .nop))))))))⟩
def N_sizes : List Str := ["world"]
def F_sizes : Fn := ⟨false, 1, 1,
  (.seq (.re (.li (.cons (.bf .len (.cons (.ix (.nm 0) (.int 4)) .nil)) (.cons (.bf .len (.cons (.ca "locks" none (.cons (.nm 0) .nil)) .nil)) (.cons (.bf .len (.cons (.ca "lamps" none (.cons (.nm 0) .nil)) .nil)) (.cons (.bf .len (.cons (.ix (.nm 0) (.int 6)) .nil)) (.cons (.bf .len (.cons (.ix (.nm 0) (.int 7)) .nil)) .nil))))))) .nop)⟩
def N_is_won : List Str := ["world", "state"]
def F_is_won : Fn := ⟨false, 2, 2,
  (.seq (.re (.ca "holds" none (.cons (.nm 0) (.cons (.nm 1) (.cons (.ix (.nm 0) (.int 11)) .nil))))) .nop)⟩
def N_is_lost : List Str := ["world", "state"]
def F_is_lost : Fn := ⟨false, 2, 2,
  (.seq (.re (.an (.ca "holds" none (.cons (.nm 0) (.cons (.nm 1) (.cons (.ix (.nm 0) (.int 12)) .nil)))) (.no (.ca "is_won" none (.cons (.nm 0) (.cons (.nm 1) .nil)))))) .nop)⟩
def N_is_over : List Str := ["world", "state"]
def F_is_over : Fn := ⟨false, 2, 2,
  (.seq (.re (.or (.ca "is_won" none (.cons (.nm 0) (.cons (.nm 1) .nil))) (.ca "is_lost" none (.cons (.nm 0) (.cons (.nm 1) .nil))))) .nop)⟩
def N_room_of : List Str := ["world", "state", "thing", "place"]
def F_room_of : Fn := ⟨false, 3, 4,
  (.seq (.as_ 3 (.ix (.ix (.nm 1) (.int 2)) (.nm 2))) (.seq (.if_ (.cm .eq (.nm 3) (.tu (.cons (.str "held") .nil))) (.seq (.re (.ix (.nm 1) (.int 1))) .nop) .nop) (.seq (.if_ (.cm .eq (.ix (.nm 3) (.int 0)) (.str "box")) (.seq (.re (.ca "room_of" none (.cons (.nm 0) (.cons (.nm 1) (.cons (.ix (.nm 3) (.int 1)) .nil))))) .nop) .nop) (.seq (.re (.ie (.cm .eq (.ix (.nm 3) (.int 0)) (.str "room")) (.ix (.nm 3) (.int 1)) .non)) .nop))))⟩
def N_is_shut_in : List Str := ["world", "state", "thing", "place"]
def F_is_shut_in : Fn := ⟨false, 3, 4,
  (.seq (.as_ 3 (.ix (.ix (.nm 1) (.int 2)) (.nm 2))) (.seq (.re (.an (.cm .eq (.ix (.nm 3) (.int 0)) (.str "box")) (.cm .ne (.ix (.ix (.nm 1) (.int 3)) (.ca "lock_number" none (.cons (.nm 0) (.cons (.tu (.cons (.str "box") (.cons (.ix (.nm 3) (.int 1)) .nil))) .nil)))) (.str "open")))) .nop))⟩
def N_is_bright : List Str := ["world", "state", "k"]
def F_is_bright : Fn := ⟨false, 2, 3,
  (.seq (.if_ (.cm .eq (.ix (.ix (.ix (.nm 0) (.int 1)) (.ix (.nm 1) (.int 1))) (.int 1)) (.str "light")) (.seq (.re (.bl true)) .nop) .nop) (.seq (.fo (.nm 2) (.ca "lamps" none (.cons (.nm 0) .nil)) (.seq (.if_ (.an (.cm .eq (.ix (.ix (.nm 1) (.int 4)) (.ca "lamp_number" none (.cons (.nm 0) (.cons (.nm 2) .nil)))) (.str "lit")) (.cm .eq (.ca "room_of" none (.cons (.nm 0) (.cons (.nm 1) (.cons (.nm 2) .nil)))) (.ix (.nm 1) (.int 1)))) (.seq (.if_ (.no (.ca "is_shut_in" none (.cons (.nm 0) (.cons (.nm 1) (.cons (.nm 2) .nil))))) (.seq (.re (.bl true)) .nop) .nop) .nop) .nop) .nop)) (.seq (.re (.bl false)) .nop)))⟩
def N_is_seen : List Str := ["world", "state", "thing"]
def F_is_seen : Fn := ⟨false, 3, 3,
  (.seq (.if_ (.cm .eq (.ix (.ix (.nm 1) (.int 2)) (.nm 2)) (.tu (.cons (.str "held") .nil))) (.seq (.re (.bl true)) .nop) .nop) (.seq (.re (.an (.ca "is_bright" none (.cons (.nm 0) (.cons (.nm 1) .nil))) (.an (.cm .eq (.ca "room_of" none (.cons (.nm 0) (.cons (.nm 1) (.cons (.nm 2) .nil)))) (.ix (.nm 1) (.int 1))) (.no (.ca "is_shut_in" none (.cons (.nm 0) (.cons (.nm 1) (.cons (.nm 2) .nil)))))))) .nop))⟩
def N_is_lock_seen : List Str := ["world", "state", "lock", "row"]
def F_is_lock_seen : Fn := ⟨false, 3, 4,
  (.seq (.if_ (.cm .eq (.ix (.nm 2) (.int 0)) (.str "box")) (.seq (.re (.ca "is_seen" none (.cons (.nm 0) (.cons (.nm 1) (.cons (.ix (.nm 2) (.int 1)) .nil))))) .nop) .nop) (.seq (.as_ 3 (.ix (.ix (.nm 0) (.int 3)) (.ix (.nm 2) (.int 1)))) (.seq (.re (.an (.ca "is_bright" none (.cons (.nm 0) (.cons (.nm 1) .nil))) (.cm .in_ (.ix (.nm 1) (.int 1)) (.tu (.cons (.ix (.nm 3) (.int 2)) (.cons (.ix (.nm 3) (.int 4)) .nil)))))) .nop)))⟩
def N_seen : List Str := ["world", "state", "k"]
def F_seen : Fn := ⟨false, 2, 3,
  (.seq (.re (.lc (.nm 2) (.r1 (.bf .len (.cons (.ix (.nm 0) (.int 4)) .nil))) (.ca "is_seen" none (.cons (.nm 0) (.cons (.nm 1) (.cons (.nm 2) .nil)))) (.nm 2))) .nop)⟩
def N_held : List Str := ["world", "state", "k"]
def F_held : Fn := ⟨false, 2, 3,
  (.seq (.re (.lc (.nm 2) (.r1 (.bf .len (.cons (.ix (.nm 0) (.int 4)) .nil))) (.cm .eq (.ix (.ix (.nm 1) (.int 2)) (.nm 2)) (.tu (.cons (.str "held") .nil))) (.nm 2))) .nop)⟩
def N_inside : List Str := ["world", "state", "box", "k"]
def F_inside : Fn := ⟨false, 3, 4,
  (.seq (.re (.lc (.nm 3) (.r1 (.bf .len (.cons (.ix (.nm 0) (.int 4)) .nil))) (.cm .eq (.ix (.ix (.nm 1) (.int 2)) (.nm 3)) (.tu (.cons (.str "box") (.cons (.nm 2) .nil)))) (.nm 3))) .nop)⟩
def N_lying : List Str := ["world", "state", "room", "k"]
def F_lying : Fn := ⟨false, 3, 4,
  (.seq (.re (.lc (.nm 3) (.r1 (.bf .len (.cons (.ix (.nm 0) (.int 4)) .nil))) (.cm .eq (.ix (.ix (.nm 1) (.int 2)) (.nm 3)) (.tu (.cons (.str "room") (.cons (.nm 2) .nil)))) (.nm 3))) .nop)⟩
def N_lock_state : List Str := ["world", "state", "lock"]
def F_lock_state : Fn := ⟨false, 3, 3,
  (.seq (.re (.ix (.ix (.nm 1) (.int 3)) (.ca "lock_number" none (.cons (.nm 0) (.cons (.nm 2) .nil))))) .nop)⟩
def N_with_part : List Str := ["state", "part", "number", "value", "row"]
def F_with_part : Fn := ⟨false, 4, 5,
  (.seq (.as_ 4 (.bi .add (.bi .add (.sl (.ix (.nm 0) (.nm 1)) .nil (.nm 2)) (.tu (.cons (.nm 3) .nil))) (.sl (.ix (.nm 0) (.nm 1)) (.bi .add (.nm 2) (.int 1)) .nil))) (.seq (.re (.bi .add (.bi .add (.sl (.nm 0) .nil (.nm 1)) (.tu (.cons (.nm 4) .nil))) (.sl (.nm 0) (.bi .add (.nm 1) (.int 1)) .nil))) .nop))⟩
def N_differences : List Str := ["one", "other", "found", "part", "k"]
def F_differences : Fn := ⟨false, 2, 5,
  (.seq (.as_ 2 (.ie (.cm .ne (.ix (.nm 0) (.int 1)) (.ix (.nm 1) (.int 1))) (.li (.cons (.tu (.cons (.int 1) (.cons (.int 0) .nil))) .nil)) (.li .nil))) (.seq (.fo (.nm 3) (.r2 (.int 2) (.int 7)) (.seq (.ex 2 (.lc (.nm 4) (.r1 (.bf .len (.cons (.ix (.nm 0) (.nm 3)) .nil))) (.cm .ne (.ix (.ix (.nm 0) (.nm 3)) (.nm 4)) (.ix (.ix (.nm 1) (.nm 3)) (.nm 4))) (.tu (.cons (.nm 3) (.cons (.nm 4) .nil))))) .nop)) (.seq (.re (.nm 2)) .nop)))⟩
def N_law_pick : List Str := ["state", "row"]
def F_law_pick : Fn := ⟨true, 1, 2,
  (.seq (.re (.ix (.nm 1) (.ca "_law_take" (some 0) (.cons (.bf .len (.cons (.nm 1) .nil)) .nil)))) .nop)⟩
def N_law_some : List Str := ["state", "row", "many", "k", "left", "found", "one", "other"]
def F_law_some : Fn := ⟨true, 2, 8,
  (.seq (.par [4, 5] (.cons (.bf .list (.cons (.nm 1) .nil)) (.cons (.li .nil) .nil))) (.seq (.fz 4) (.seq (.fo (.nm 3) (.r1 (.bf .min (.cons (.nm 2) (.cons (.bf .len (.cons (.nm 4) .nil)) .nil)))) (.seq (.as_ 6 (.ca "_law_pick" (some 0) (.cons (.nm 4) .nil))) (.seq (.fz 6) (.seq (.as_ 4 (.lc (.nm 7) (.nm 4) (.cm .ne (.nm 7) (.nm 6)) (.nm 7))) (.seq (.fz 4) (.seq (.ap 5 (.nm 6)) .nop)))))) (.seq (.re (.nm 5)) .nop))))⟩
def N_law_back : List Str := ["told", "row", "spot", "k"]
def F_law_back : Fn := ⟨false, 1, 4,
  (.seq (.as_ 1 (.tu (.cons (.str "north") (.cons (.str "south") (.cons (.str "east") (.cons (.str "west") (.cons (.str "up") (.cons (.str "down") (.cons (.str "in") (.cons (.str "out") .nil)))))))))) (.seq (.as_ 2 (.ix (.lc (.nm 3) (.r1 (.int 8)) (.cm .eq (.ix (.nm 1) (.nm 3)) (.nm 0)) (.nm 3)) (.int 0))) (.seq (.re (.ix (.nm 1) (.bi .sub (.bi .add (.nm 2) (.int 1)) (.bi .mul (.int 2) (.bi .mod (.bf .int (.cons (.nm 2) .nil)) (.int 2)))))) .nop)))⟩
def N_law_ways : List Str := ["state", "many", "k", "ways", "doors", "used", "free", "told", "one", "kind"]
def F_law_ways : Fn := ⟨true, 1, 10,
  (.seq (.par [3, 4, 5] (.cons (.li .nil) (.cons (.li .nil) (.cons (.li .nil) .nil)))) (.seq (.fz 3) (.seq (.fz 5) (.seq (.fo (.nm 2) (.r2 (.int 1) (.nm 1)) (.seq (.par [8, 9] (.cons (.ca "_law_take" (some 0) (.cons (.nm 2) .nil)) (.cons (.ca "_law_take" (some 0) (.cons (.int 4) .nil)) .nil))) (.seq (.as_ 6 (.lc (.nm 7) (.tu (.cons (.str "north") (.cons (.str "east") (.cons (.str "up") (.cons (.str "in") (.cons (.str "south") (.cons (.str "west") (.cons (.str "down") (.cons (.str "out") .nil))))))))) (.an (.cm .nin (.tu (.cons (.nm 8) (.cons (.nm 7) .nil))) (.nm 5)) (.cm .nin (.tu (.cons (.nm 2) (.cons (.ca "_law_back" none (.cons (.nm 7) .nil)) .nil))) (.nm 5))) (.nm 7))) (.seq (.fz 6) (.seq (.as_ 7 (.ca "_law_pick" (some 0) (.cons (.nm 6) .nil))) (.seq (.fz 7) (.seq (.as_ 5 (.bi .add (.nm 5) (.li (.cons (.tu (.cons (.nm 8) (.cons (.nm 7) .nil))) (.cons (.tu (.cons (.nm 2) (.cons (.ca "_law_back" none (.cons (.nm 7) .nil)) .nil))) .nil))))) (.seq (.fz 5) (.seq (.if_ (.an (.cm .eq (.nm 9) (.int 0)) (.cm .eq (.nm 4) (.li .nil))) (.seq (.ap 4 (.tu (.cons (.str "gate") (.cons (.ca "_law_pick" (some 0) (.cons (.li (.cons (.tu (.cons (.str "gate") .nil)) (.cons (.tu (.cons (.str "oak") (.cons (.str "gate") .nil))) (.cons (.tu (.cons (.str "old") (.cons (.str "oak") (.cons (.str "gate") .nil)))) .nil)))) .nil)) (.cons (.nm 8) (.cons (.nm 7) (.cons (.nm 2) (.cons (.ca "_law_pick" (some 0) (.cons (.li (.cons (.str "open") (.cons (.str "closed") (.cons (.str "locked") .nil)))) .nil)) .nil)))))))) .nop) (.seq (.as_ 3 (.bi .add (.bi .add (.nm 3) (.li (.cons (.tu (.cons (.nm 8) (.cons (.nm 7) (.cons (.nm 2) .nil)))) .nil))) (.ie (.cm .lt (.nm 9) (.int 3)) (.li (.cons (.tu (.cons (.nm 2) (.cons (.ca "_law_back" none (.cons (.nm 7) .nil)) (.cons (.nm 8) .nil)))) .nil)) (.li .nil)))) (.seq (.fz 3) .nop))) .nop))))))))) (.seq (.fz 4) (.seq (.re (.tu (.cons (.nm 3) (.cons (.nm 4) .nil)))) .nop))))))⟩
def N_law_things : List Str := ["state", "rooms", "many", "found", "spots", "k", "names", "phrases", "kind", "place"]
def F_law_things : Fn := ⟨true, 2, 10,
  (.seq (.as_ 3 (.li .nil)) (.seq (.if_ (.cm .eq (.ca "_law_take" (some 0) (.cons (.int 2) .nil)) (.int 0)) (.seq (.ap 3 (.tu (.cons (.str "chest") (.cons (.ca "_law_pick" (some 0) (.cons (.li (.cons (.tu (.cons (.str "chest") .nil)) (.cons (.tu (.cons (.str "red") (.cons (.str "chest") .nil))) .nil))) .nil)) (.cons (.str "box") (.cons (.tu (.cons (.str "room") (.cons (.ca "_law_take" (some 0) (.cons (.nm 1) .nil)) .nil))) (.cons (.tu (.cons (.bi .add (.int 1) (.ca "_law_take" (some 0) (.cons (.int 2) .nil))) (.cons (.ca "_law_pick" (some 0) (.cons (.li (.cons (.str "open") (.cons (.str "closed") (.cons (.str "locked") .nil)))) .nil)) .nil))) .nil))))))) .nop) .nop) (.seq (.as_ 4 (.bi .add (.bi .add (.lc (.nm 5) (.r1 (.nm 1)) (.bl true) (.tu (.cons (.str "room") (.cons (.nm 5) .nil)))) (.li (.cons (.tu (.cons (.str "held") .nil)) .nil))) (.ie (.cm .ne (.nm 3) (.li .nil)) (.li (.cons (.tu (.cons (.str "box") (.cons (.int 0) .nil))) .nil)) (.li .nil)))) (.seq (.fz 4) (.seq (.par [6, 7] (.cons (.li (.cons (.str "pin") (.cons (.str "orb") (.cons (.str "cup") .nil)))) (.cons (.li (.cons (.tu (.cons (.str "pin") .nil)) (.cons (.tu (.cons (.str "red") (.cons (.str "pin") .nil))) (.cons (.tu (.cons (.str "old") (.cons (.str "red") (.cons (.str "pin") .nil)))) (.cons (.tu (.cons (.str "orb") .nil)) (.cons (.tu (.cons (.str "old") (.cons (.str "orb") .nil))) .nil)))))) .nil))) (.seq (.fz 6) (.seq (.fz 7) (.seq (.fo (.nm 5) (.r1 (.nm 2)) (.seq (.as_ 8 (.ie (.cm .eq (.ca "_law_take" (some 0) (.cons (.int 4) .nil)) (.int 0)) (.str "lamp") (.ie (.cm .eq (.ca "_law_take" (some 0) (.cons (.int 6) .nil)) (.int 0)) (.str "fixed") (.str "thing")))) (.seq (.as_ 9 (.ie (.cm .ne (.nm 8) (.str "fixed")) (.ca "_law_pick" (some 0) (.cons (.nm 4) .nil)) (.tu (.cons (.str "room") (.cons (.ca "_law_take" (some 0) (.cons (.nm 1) .nil)) .nil))))) (.seq (.fz 9) (.seq (.ap 3 (.tu (.cons (.ix (.nm 6) (.nm 5)) (.cons (.ca "_law_pick" (some 0) (.cons (.nm 7) .nil)) (.cons (.nm 8) (.cons (.nm 9) (.cons (.ie (.cm .eq (.nm 8) (.str "lamp")) (.ca "_law_pick" (some 0) (.cons (.li (.cons (.str "lit") (.cons (.str "out") .nil))) .nil)) .non) .nil))))))) .nop))))) (.seq (.re (.nm 3)) .nop)))))))))⟩
def N_law_single : List Str := ["state", "world", "kind", "things", "k"]
def F_law_single : Fn := ⟨true, 1, 5,
  (.seq (.as_ 2 (.ca "_law_take" (some 0) (.cons (.int 7) .nil))) (.seq (.as_ 3 (.lc (.nm 4) (.r1 (.bf .len (.cons (.ix (.nm 1) (.int 4)) .nil))) (.cm .in_ (.ix (.ix (.ix (.nm 1) (.int 4)) (.nm 4)) (.int 2)) (.tu (.cons (.str "thing") (.cons (.str "lamp") .nil)))) (.nm 4))) (.seq (.fz 3) (.seq (.if_ (.or (.cm .eq (.nm 2) (.int 0)) (.cm .eq (.nm 3) (.li .nil))) (.seq (.re (.tu (.cons (.str "at") (.cons (.ca "_law_take" (some 0) (.cons (.bf .len (.cons (.ix (.nm 1) (.int 1)) .nil)) .nil)) .nil)))) .nop) .nop) (.seq (.if_ (.cm .eq (.nm 2) (.int 1)) (.seq (.re (.tu (.cons (.str "has") (.cons (.ca "_law_pick" (some 0) (.cons (.nm 3) .nil)) .nil)))) .nop) .nop) (.seq (.if_ (.cm .eq (.nm 2) (.int 2)) (.seq (.re (.tu (.cons (.str "lies") (.cons (.ca "_law_pick" (some 0) (.cons (.nm 3) .nil)) (.cons (.ca "_law_pick" (some 0) (.cons (.li (.cons (.tu (.cons (.str "room") (.cons (.ca "_law_take" (some 0) (.cons (.bf .len (.cons (.ix (.nm 1) (.int 1)) .nil)) .nil)) .nil))) (.cons (.tu (.cons (.str "held") .nil)) (.cons (.tu (.cons (.str "gone") .nil)) .nil)))) .nil)) .nil))))) .nop) .nop) (.seq (.if_ (.an (.cm .eq (.nm 2) (.int 3)) (.cm .ne (.ix (.nm 1) (.int 3)) (.tu .nil))) (.seq (.re (.tu (.cons (.str "open") (.cons (.tu (.cons (.str "door") (.cons (.int 0) .nil))) .nil)))) .nop) .nop) (.seq (.if_ (.an (.cm .eq (.nm 2) (.int 4)) (.cm .ne (.lc (.nm 4) (.nm 3) (.cm .eq (.ix (.ix (.ix (.nm 1) (.int 4)) (.nm 4)) (.int 2)) (.str "lamp")) (.nm 4)) (.li .nil))) (.seq (.re (.tu (.cons (.str "lit") (.cons (.ix (.lc (.nm 4) (.nm 3) (.cm .eq (.ix (.ix (.ix (.nm 1) (.int 4)) (.nm 4)) (.int 2)) (.str "lamp")) (.nm 4)) (.int 0)) .nil)))) .nop) .nop) (.seq (.if_ (.cm .eq (.nm 2) (.int 5)) (.seq (.re (.tu (.cons (.str "<") (.cons (.int 0) (.cons (.bi .add (.int 1) (.ca "_law_take" (some 0) (.cons (.int 2) .nil))) .nil))))) .nop) .nop) (.seq (.re (.tu (.cons (.str "mark") (.cons (.int 0) .nil)))) .nop))))))))))⟩
def N_law_condition : List Str := ["state", "world", "level", "kind"]
def F_law_condition : Fn := ⟨true, 2, 4,
  (.seq (.as_ 3 (.ie (.cm .lt (.nm 2) (.int 2)) (.ca "_law_take" (some 0) (.cons (.int 6) .nil)) (.int 0))) (.seq (.if_ (.cm .lt (.nm 3) (.int 3)) (.seq (.re (.ca "_law_single" (some 0) (.cons (.nm 1) .nil))) .nop) .nop) (.seq (.if_ (.cm .eq (.nm 3) (.int 3)) (.seq (.re (.tu (.cons (.str "not") (.cons (.ca "_law_condition" (some 0) (.cons (.nm 1) (.cons (.bi .add (.nm 2) (.int 1)) .nil))) .nil)))) .nop) .nop) (.seq (.re (.tu (.cons (.ca "_law_pick" (some 0) (.cons (.li (.cons (.str "and") (.cons (.str "or") .nil))) .nil)) (.cons (.ca "_law_condition" (some 0) (.cons (.nm 1) (.cons (.bi .add (.nm 2) (.int 1)) .nil))) (.cons (.ca "_law_condition" (some 0) (.cons (.nm 1) (.cons (.bi .add (.nm 2) (.int 1)) .nil))) .nil))))) .nop))))⟩
def N_law_effects : List Str := ["state", "world", "found", "things", "k", "kind"]
def F_law_effects : Fn := ⟨true, 1, 6,
  (.seq (.as_ 2 (.li .nil)) (.seq (.as_ 3 (.lc (.nm 4) (.r1 (.bf .len (.cons (.ix (.nm 1) (.int 4)) .nil))) (.cm .in_ (.ix (.ix (.ix (.nm 1) (.int 4)) (.nm 4)) (.int 2)) (.tu (.cons (.str "thing") (.cons (.str "lamp") .nil)))) (.nm 4))) (.seq (.fz 3) (.seq (.fo (.nm 4) (.r1 (.bi .add (.int 1) (.ca "_law_take" (some 0) (.cons (.int 2) .nil)))) (.seq (.as_ 5 (.ca "_law_take" (some 0) (.cons (.int 6) .nil))) (.seq (.if_ (.an (.cm .eq (.nm 5) (.int 0)) (.cm .ne (.nm 3) (.li .nil))) (.seq (.ap 2 (.tu (.cons (.str "bring") (.cons (.ca "_law_pick" (some 0) (.cons (.nm 3) .nil)) (.cons (.ca "_law_pick" (some 0) (.cons (.li (.cons (.tu (.cons (.str "room") (.cons (.int 0) .nil))) (.cons (.tu (.cons (.str "held") .nil)) (.cons (.tu (.cons (.str "gone") .nil)) .nil)))) .nil)) .nil))))) .nop) (.seq (.if_ (.an (.cm .eq (.nm 5) (.int 1)) (.cm .ne (.ix (.nm 1) (.int 3)) (.tu .nil))) (.seq (.ap 2 (.tu (.cons (.ca "_law_pick" (some 0) (.cons (.li (.cons (.str "open") (.cons (.str "close") (.cons (.str "lock") .nil)))) .nil)) (.cons (.tu (.cons (.str "door") (.cons (.int 0) .nil))) .nil)))) .nop) (.seq (.if_ (.cm .eq (.nm 5) (.int 2)) (.seq (.ap 2 (.tu (.cons (.ca "_law_pick" (some 0) (.cons (.li (.cons (.str "on") (.cons (.str "off") .nil))) .nil)) (.cons (.int 0) .nil)))) .nop) (.seq (.if_ (.cm .eq (.nm 5) (.int 3)) (.seq (.ap 2 (.tu (.cons (.str "less") (.cons (.int 0) .nil)))) .nop) (.seq (.ap 2 (.ca "_law_pick" (some 0) (.cons (.li (.cons (.tu (.cons (.str "say") (.cons (.tu (.cons (.str "ding") .nil)) .nil))) (.cons (.tu (.cons (.str "say") (.cons (.tu (.cons (.str "oh") (.cons (.str "no") .nil))) .nil))) (.cons (.tu (.cons (.str "go") (.cons (.int 0) .nil))) .nil)))) .nil))) .nop)) .nop)) .nop)) .nop)) .nop))) (.seq (.re (.bf .tuple (.cons (.nm 2) .nil))) .nop)))))⟩
def N_law_world : List Str := ["state", "many", "wide", "rooms", "names", "told", "things", "locks_v", "free", "keys", "world", "deeds", "verb", "afters", "lose", "ways", "doors", "thing", "k", "lock"]
def F_law_world : Fn := ⟨true, 2, 20,
  (.seq (.as_ 3 (.bi .add (.int 2) (.ca "_law_take" (some 0) (.cons (.bi .sub (.nm 1) (.int 1)) .nil)))) (.seq (.up [15, 16] (.ca "_law_ways" (some 0) (.cons (.nm 3) .nil))) (.seq (.as_ 4 (.li (.cons (.str "hall") (.cons (.str "cave") (.cons (.str "yard") (.cons (.str "loft") .nil)))))) (.seq (.fz 4) (.seq (.as_ 5 (.bf .tuple (.cons (.lc (.nm 18) (.r1 (.nm 3)) (.bl true) (.tu (.cons (.ix (.nm 4) (.nm 18)) (.cons (.ie (.cm .eq (.ca "_law_take" (some 0) (.cons (.int 5) .nil)) (.int 0)) (.str "dark") (.str "light")) .nil)))) .nil))) (.seq (.as_ 6 (.ca "_law_things" (some 0) (.cons (.nm 3) (.cons (.nm 2) .nil)))) (.seq (.fz 6) (.seq (.as_ 7 (.bi .add (.rp (.cons (.tu (.cons (.str "door") (.cons (.int 0) .nil))) .nil) (.bf .len (.cons (.nm 16) .nil))) (.lc (.nm 18) (.r1 (.bf .len (.cons (.nm 6) .nil))) (.cm .eq (.ix (.ix (.nm 6) (.nm 18)) (.int 2)) (.str "box")) (.tu (.cons (.str "box") (.cons (.nm 18) .nil)))))) (.seq (.fz 7) (.seq (.as_ 8 (.lc (.nm 18) (.r1 (.bf .len (.cons (.nm 6) .nil))) (.cm .eq (.ix (.ix (.nm 6) (.nm 18)) (.int 2)) (.str "thing")) (.nm 18))) (.seq (.fz 8) (.seq (.as_ 9 (.lc (.nm 19) (.nm 7) (.an (.cm .ne (.nm 8) (.li .nil)) (.cm .eq (.ca "_law_take" (some 0) (.cons (.int 2) .nil)) (.int 0))) (.tu (.cons (.ca "_law_pick" (some 0) (.cons (.nm 8) .nil)) (.cons (.nm 19) .nil))))) (.seq (.fz 9) (.seq (.as_ 10 (.tu (.cons (.str "world") (.cons (.nm 5) (.cons (.bf .tuple (.cons (.nm 15) .nil)) (.cons (.bf .tuple (.cons (.nm 16) .nil)) (.cons (.bf .tuple (.cons (.nm 6) .nil)) (.cons (.bf .tuple (.cons (.nm 9) .nil)) (.cons (.tu (.cons (.tu (.cons (.str "bell") (.cons (.ca "_law_pick" (some 0) (.cons (.li (.cons (.str "on") (.cons (.str "off") .nil))) .nil)) .nil))) .nil)) (.cons (.tu (.cons (.tu (.cons (.str "oil") (.cons (.ca "_law_take" (some 0) (.cons (.int 3) .nil)) .nil))) .nil)) .nil)))))))))) (.seq (.as_ 11 (.li .nil)) (.seq (.fo (.nm 12) (.ca "_law_some" (some 0) (.cons (.li (.cons (.str "ring") (.cons (.str "rub") (.cons (.str "sing") .nil)))) (.cons (.ca "_law_take" (some 0) (.cons (.int 3) .nil)) .nil))) (.seq (.as_ 17 (.ie (.an (.cm .ne (.nm 6) (.li .nil)) (.cm .eq (.ca "_law_take" (some 0) (.cons (.int 2) .nil)) (.int 0))) (.ca "_law_take" (some 0) (.cons (.bf .len (.cons (.nm 6) .nil)) .nil)) .non)) (.seq (.ap 11 (.tu (.cons (.nm 12) (.cons (.nm 17) (.cons (.ca "_law_condition" (some 0) (.cons (.nm 10) (.cons (.int 0) .nil))) (.cons (.ca "_law_effects" (some 0) (.cons (.nm 10) .nil)) .nil)))))) .nop))) (.seq (.as_ 13 (.lc (.nm 18) (.r1 (.ca "_law_take" (some 0) (.cons (.int 2) .nil))) (.bl true) (.tu (.cons (.ca "_law_condition" (some 0) (.cons (.nm 10) (.cons (.int 0) .nil))) (.cons (.ca "_law_effects" (some 0) (.cons (.nm 10) .nil)) .nil))))) (.seq (.fz 13) (.seq (.as_ 14 (.ie (.cm .gt (.ca "_law_take" (some 0) (.cons (.int 3) .nil)) (.int 0)) (.tu (.cons (.str "never") .nil)) (.ca "_law_single" (some 0) (.cons (.nm 10) .nil)))) (.seq (.fz 14) (.seq (.re (.bi .add (.nm 10) (.tu (.cons (.bf .tuple (.cons (.nm 11) .nil)) (.cons (.bf .tuple (.cons (.nm 13) .nil)) (.cons (.ca "_law_take" (some 0) (.cons (.nm 3) .nil)) (.cons (.ca "_law_condition" (some 0) (.cons (.nm 10) (.cons (.int 1) .nil))) (.cons (.nm 14) .nil)))))))) .nop)))))))))))))))))))))⟩
def N_law_lock : List Str := ["world", "lock", "k"]
def F_law_lock : Fn := ⟨false, 2, 3,
  (.seq (.if_ (.cm .eq (.ix (.nm 1) (.int 0)) (.str "door")) (.seq (.re (.ix (.nm 1) (.int 1))) .nop) .nop) (.seq (.re (.bi .add (.bf .len (.cons (.ix (.nm 0) (.int 3)) .nil)) (.bf .len (.cons (.lc (.nm 2) (.r1 (.ix (.nm 1) (.int 1))) (.cm .eq (.ix (.ix (.ix (.nm 0) (.int 4)) (.nm 2)) (.int 2)) (.str "box")) (.nm 2)) .nil)))) .nop))⟩
def N_law_lamp : List Str := ["world", "thing", "k"]
def F_law_lamp : Fn := ⟨false, 2, 3,
  (.seq (.re (.bf .len (.cons (.lc (.nm 2) (.r1 (.nm 1)) (.cm .eq (.ix (.ix (.ix (.nm 0) (.int 4)) (.nm 2)) (.int 2)) (.str "lamp")) (.nm 2)) .nil))) .nop)⟩
def N_law_start : List Str := ["world", "boxes_v", "locks_v", "lamps_v", "row"]
def F_law_start : Fn := ⟨false, 1, 5,
  (.seq (.as_ 1 (.lc (.nm 4) (.ix (.nm 0) (.int 4)) (.cm .eq (.ix (.nm 4) (.int 2)) (.str "box")) (.nm 4))) (.seq (.fz 1) (.seq (.as_ 2 (.bf .tuple (.cons (.bi .add (.lc (.nm 4) (.ix (.nm 0) (.int 3)) (.bl true) (.ix (.nm 4) (.int 5))) (.lc (.nm 4) (.nm 1) (.bl true) (.ix (.ix (.nm 4) (.int 4)) (.int 1)))) .nil))) (.seq (.as_ 3 (.bf .tuple (.cons (.lc (.nm 4) (.ix (.nm 0) (.int 4)) (.cm .eq (.ix (.nm 4) (.int 2)) (.str "lamp")) (.ix (.nm 4) (.int 4))) .nil))) (.seq (.re (.tu (.cons (.str "state") (.cons (.ix (.nm 0) (.int 10)) (.cons (.bf .tuple (.cons (.lc (.nm 4) (.ix (.nm 0) (.int 4)) (.bl true) (.ix (.nm 4) (.int 3))) .nil)) (.cons (.nm 2) (.cons (.nm 3) (.cons (.bf .tuple (.cons (.lc (.nm 4) (.ix (.nm 0) (.int 6)) (.bl true) (.ix (.nm 4) (.int 1))) .nil)) (.cons (.bf .tuple (.cons (.lc (.nm 4) (.ix (.nm 0) (.int 7)) (.bl true) (.ix (.nm 4) (.int 1))) .nil)) .nil))))))))) .nop)))))⟩
def N_law_holds : List Str := ["world", "now", "condition", "word", "one", "other"]
def F_law_holds : Fn := ⟨false, 3, 6,
  (.seq (.as_ 3 (.ix (.nm 2) (.int 0))) (.seq (.if_ (.cm .in_ (.nm 3) (.tu (.cons (.str "always") (.cons (.str "never") .nil)))) (.seq (.re (.cm .eq (.nm 3) (.str "always"))) .nop) .nop) (.seq (.if_ (.cm .eq (.nm 3) (.str "not")) (.seq (.re (.no (.ca "_law_holds" none (.cons (.nm 0) (.cons (.nm 1) (.cons (.ix (.nm 2) (.int 1)) .nil)))))) .nop) .nop) (.seq (.if_ (.cm .in_ (.nm 3) (.tu (.cons (.str "and") (.cons (.str "or") .nil)))) (.seq (.par [4, 5] (.cons (.ca "_law_holds" none (.cons (.nm 0) (.cons (.nm 1) (.cons (.ix (.nm 2) (.int 1)) .nil)))) (.cons (.ca "_law_holds" none (.cons (.nm 0) (.cons (.nm 1) (.cons (.ix (.nm 2) (.int 2)) .nil)))) .nil))) (.seq (.fz 4) (.seq (.fz 5) (.seq (.re (.ie (.cm .eq (.nm 3) (.str "and")) (.an (.nm 4) (.nm 5)) (.or (.nm 4) (.nm 5)))) .nop)))) .nop) (.seq (.if_ (.cm .eq (.nm 3) (.str "at")) (.seq (.re (.cm .eq (.ix (.nm 1) (.int 1)) (.ix (.nm 2) (.int 1)))) .nop) .nop) (.seq (.if_ (.cm .in_ (.nm 3) (.tu (.cons (.str "has") (.cons (.str "lies") .nil)))) (.seq (.re (.cm .eq (.ix (.ix (.nm 1) (.int 2)) (.ix (.nm 2) (.int 1))) (.ie (.cm .eq (.nm 3) (.str "has")) (.tu (.cons (.str "held") .nil)) (.ix (.nm 2) (.int 2))))) .nop) .nop) (.seq (.if_ (.cm .eq (.nm 3) (.str "open")) (.seq (.re (.cm .eq (.ix (.ix (.nm 1) (.int 3)) (.ca "_law_lock" none (.cons (.nm 0) (.cons (.ix (.nm 2) (.int 1)) .nil)))) (.str "open"))) .nop) .nop) (.seq (.if_ (.cm .eq (.nm 3) (.str "lit")) (.seq (.re (.cm .eq (.ix (.ix (.nm 1) (.int 4)) (.ca "_law_lamp" none (.cons (.nm 0) (.cons (.ix (.nm 2) (.int 1)) .nil)))) (.str "lit"))) .nop) .nop) (.seq (.if_ (.cm .eq (.nm 3) (.str "mark")) (.seq (.re (.cm .eq (.ix (.ix (.nm 1) (.int 5)) (.ix (.nm 2) (.int 1))) (.str "on"))) .nop) .nop) (.seq (.re (.ie (.cm .eq (.nm 3) (.str "=")) (.cm .eq (.ix (.ix (.nm 1) (.int 6)) (.ix (.nm 2) (.int 1))) (.ix (.nm 2) (.int 2))) (.cm .lt (.ix (.ix (.nm 1) (.int 6)) (.ix (.nm 2) (.int 1))) (.ix (.nm 2) (.int 2))))) .nop))))))))))⟩
def N_law_exits : List Str := ["world", "room", "back", "found", "k", "name", "phrase", "one", "told", "other", "lock", "goal"]
def F_law_exits : Fn := ⟨false, 2, 12,
  (.seq (.as_ 2 (.di (.cons (.str "north") (.cons (.str "south") (.cons (.str "south") (.cons (.str "north") (.cons (.str "east") (.cons (.str "west") (.cons (.str "west") (.cons (.str "east") (.cons (.str "up") (.cons (.str "down") (.cons (.str "down") (.cons (.str "up") (.cons (.str "in") (.cons (.str "out") (.cons (.str "out") (.cons (.str "in") .nil)))))))))))))))))) (.seq (.as_ 3 (.lc (.tu [7, 8, 11]) (.ix (.nm 0) (.int 2)) (.cm .eq (.nm 7) (.nm 1)) (.tu (.cons (.nm 8) (.cons (.nm 11) (.cons .non .nil)))))) (.seq (.fz 3) (.seq (.fo (.nm 4) (.r1 (.bf .len (.cons (.ix (.nm 0) (.int 3)) .nil))) (.seq (.up [5, 6, 7, 8, 9, 10] (.ix (.ix (.nm 0) (.int 3)) (.nm 4))) (.seq (.as_ 3 (.bi .add (.bi .add (.nm 3) (.ie (.cm .eq (.nm 7) (.nm 1)) (.li (.cons (.tu (.cons (.nm 8) (.cons (.nm 9) (.cons (.nm 4) .nil)))) .nil)) (.li .nil))) (.ie (.cm .eq (.nm 9) (.nm 1)) (.li (.cons (.tu (.cons (.ix (.nm 2) (.nm 8)) (.cons (.nm 7) (.cons (.nm 4) .nil)))) .nil)) (.li .nil)))) (.seq (.fz 3) .nop)))) (.seq (.re (.nm 3)) .nop)))))⟩
def N_law_near : List Str := ["world", "now", "thing", "place"]
def F_law_near : Fn := ⟨false, 3, 4,
  (.seq (.as_ 3 (.ix (.ix (.nm 1) (.int 2)) (.nm 2))) (.seq (.if_ (.cm .eq (.ix (.nm 3) (.int 0)) (.str "box")) (.seq (.re (.an (.cm .eq (.ix (.ix (.nm 1) (.int 2)) (.ix (.nm 3) (.int 1))) (.tu (.cons (.str "room") (.cons (.ix (.nm 1) (.int 1)) .nil)))) (.cm .eq (.ix (.ix (.nm 1) (.int 3)) (.ca "_law_lock" none (.cons (.nm 0) (.cons (.nm 3) .nil)))) (.str "open")))) .nop) .nop) (.seq (.re (.cm .in_ (.nm 3) (.tu (.cons (.tu (.cons (.str "held") .nil)) (.cons (.tu (.cons (.str "room") (.cons (.ix (.nm 1) (.int 1)) .nil))) .nil))))) .nop)))⟩
def N_law_bright : List Str := ["world", "now", "lamps_v", "k"]
def F_law_bright : Fn := ⟨false, 2, 4,
  (.seq (.as_ 2 (.lc (.nm 3) (.r1 (.bf .len (.cons (.ix (.nm 0) (.int 4)) .nil))) (.an (.cm .eq (.ix (.ix (.ix (.nm 0) (.int 4)) (.nm 3)) (.int 2)) (.str "lamp")) (.an (.cm .eq (.ix (.ix (.nm 1) (.int 4)) (.ca "_law_lamp" none (.cons (.nm 0) (.cons (.nm 3) .nil)))) (.str "lit")) (.ca "_law_near" none (.cons (.nm 0) (.cons (.nm 1) (.cons (.nm 3) .nil)))))) (.nm 3))) (.seq (.fz 2) (.seq (.re (.or (.cm .eq (.ix (.ix (.ix (.nm 0) (.int 1)) (.ix (.nm 1) (.int 1))) (.int 1)) (.str "light")) (.cm .ne (.nm 2) (.li .nil)))) .nop)))⟩
def N_law_sees : List Str := ["world", "now", "one"]
def F_law_sees : Fn := ⟨false, 3, 3,
  (.seq (.if_ (.isi (.nm 2) .tuple) (.seq (.if_ (.cm .eq (.ix (.nm 2) (.int 0)) (.str "door")) (.seq (.re (.an (.ca "_law_bright" none (.cons (.nm 0) (.cons (.nm 1) .nil))) (.cm .in_ (.ix (.nm 1) (.int 1)) (.tu (.cons (.ix (.ix (.ix (.nm 0) (.int 3)) (.ix (.nm 2) (.int 1))) (.int 2)) (.cons (.ix (.ix (.ix (.nm 0) (.int 3)) (.ix (.nm 2) (.int 1))) (.int 4)) .nil)))))) .nop) .nop) (.seq (.re (.ca "_law_sees" none (.cons (.nm 0) (.cons (.nm 1) (.cons (.ix (.nm 2) (.int 1)) .nil))))) .nop)) .nop) (.seq (.re (.or (.cm .eq (.ix (.ix (.nm 1) (.int 2)) (.nm 2)) (.tu (.cons (.str "held") .nil))) (.an (.ca "_law_near" none (.cons (.nm 0) (.cons (.nm 1) (.cons (.nm 2) .nil)))) (.ca "_law_bright" none (.cons (.nm 0) (.cons (.nm 1) .nil)))))) .nop))⟩
def N_law_end : List Str := ["world", "now"]
def F_law_end : Fn := ⟨false, 2, 2,
  (.seq (.if_ (.ca "_law_holds" none (.cons (.nm 0) (.cons (.nm 1) (.cons (.ix (.nm 0) (.int 11)) .nil)))) (.seq (.re (.str "won")) .nop) .nop) (.seq (.re (.ie (.ca "_law_holds" none (.cons (.nm 0) (.cons (.nm 1) (.cons (.ix (.nm 0) (.int 12)) .nil)))) (.str "lost") (.str "on"))) .nop))⟩
def N_law_refused : List Str := ["world", "now", "deed", "word", "found", "told", "one"]
def F_law_refused : Fn := ⟨false, 3, 7,
  (.seq (.as_ 3 (.ix (.nm 2) (.int 0))) (.seq (.if_ (.cm .ne (.ca "_law_end" none (.cons (.nm 0) (.cons (.nm 1) .nil))) (.str "on")) (.seq (.re (.str "over")) .nop) .nop) (.seq (.if_ (.cm .eq (.nm 3) (.str "wait")) (.seq (.re (.str "")) .nop) .nop) (.seq (.if_ (.cm .eq (.nm 3) (.str "go")) (.seq (.as_ 4 (.lc (.nm 6) (.ca "_law_exits" none (.cons (.nm 0) (.cons (.ix (.nm 1) (.int 1)) .nil))) (.cm .eq (.ix (.nm 6) (.int 0)) (.ix (.nm 2) (.int 1))) (.nm 6))) (.seq (.fz 4) (.seq (.re (.ie (.cm .eq (.nm 4) (.li .nil)) (.str "way") (.ie (.an (.cm .isn (.ix (.ix (.nm 4) (.int 0)) (.int 2)) .non) (.cm .ne (.ix (.ix (.nm 1) (.int 3)) (.ix (.ix (.nm 4) (.int 0)) (.int 2))) (.str "open"))) (.str "closed") (.str "")))) .nop))) .nop) (.seq (.if_ (.cm .eq (.nm 3) (.str "do")) (.seq (.if_ (.an (.cm .isn (.ix (.ix (.ix (.nm 0) (.int 8)) (.ix (.nm 2) (.int 1))) (.int 1)) .non) (.no (.ca "_law_sees" none (.cons (.nm 0) (.cons (.nm 1) (.cons (.ix (.ix (.ix (.nm 0) (.int 8)) (.ix (.nm 2) (.int 1))) (.int 1)) .nil)))))) (.seq (.re (.str "unseen")) .nop) .nop) (.seq (.re (.ie (.ca "_law_holds" none (.cons (.nm 0) (.cons (.nm 1) (.cons (.ix (.ix (.ix (.nm 0) (.int 8)) (.ix (.nm 2) (.int 1))) (.int 2)) .nil)))) (.str "") (.str "nothing"))) .nop)) .nop) (.seq (.if_ (.an (.cm .in_ (.nm 3) (.tu (.cons (.str "take") (.cons (.str "light") (.cons (.str "douse") (.cons (.str "open") (.cons (.str "close") (.cons (.str "unlock") (.cons (.str "lock") .nil))))))))) (.no (.ca "_law_sees" none (.cons (.nm 0) (.cons (.nm 1) (.cons (.ix (.nm 2) (.int 1)) .nil)))))) (.seq (.re (.str "unseen")) .nop) .nop) (.seq (.if_ (.cm .eq (.nm 3) (.str "take")) (.seq (.re (.ie (.cm .in_ (.ix (.ix (.ix (.nm 0) (.int 4)) (.ix (.nm 2) (.int 1))) (.int 2)) (.tu (.cons (.str "box") (.cons (.str "fixed") .nil)))) (.str "fixed") (.ie (.cm .eq (.ix (.ix (.nm 1) (.int 2)) (.ix (.nm 2) (.int 1))) (.tu (.cons (.str "held") .nil))) (.str "held") (.str "")))) .nop) .nop) (.seq (.if_ (.cm .in_ (.nm 3) (.tu (.cons (.str "light") (.cons (.str "douse") .nil)))) (.seq (.if_ (.cm .ne (.ix (.ix (.ix (.nm 0) (.int 4)) (.ix (.nm 2) (.int 1))) (.int 2)) (.str "lamp")) (.seq (.re (.str "lamp")) .nop) .nop) (.seq (.as_ 5 (.ix (.di (.cons (.str "light") (.cons (.str "lit") (.cons (.str "douse") (.cons (.str "out") .nil))))) (.nm 3))) (.seq (.re (.ie (.cm .eq (.ix (.ix (.nm 1) (.int 4)) (.ca "_law_lamp" none (.cons (.nm 0) (.cons (.ix (.nm 2) (.int 1)) .nil)))) (.nm 5)) (.nm 5) (.str ""))) .nop))) .nop) (.seq (.re (.ca "_law_refused_more" none (.cons (.nm 0) (.cons (.nm 1) (.cons (.nm 2) .nil))))) .nop)))))))))⟩
def N_law_refused_more : List Str := ["world", "now", "deed", "word", "told", "one"]
def F_law_refused_more : Fn := ⟨false, 3, 6,
  (.seq (.as_ 3 (.ix (.nm 2) (.int 0))) (.seq (.if_ (.cm .in_ (.nm 3) (.tu (.cons (.str "drop") (.cons (.str "put") .nil)))) (.seq (.if_ (.cm .ne (.ix (.ix (.nm 1) (.int 2)) (.ix (.nm 2) (.int 1))) (.tu (.cons (.str "held") .nil))) (.seq (.re (.str "lacking")) .nop) .nop) (.seq (.if_ (.cm .eq (.nm 3) (.str "drop")) (.seq (.re (.str "")) .nop) .nop) (.seq (.if_ (.no (.ca "_law_sees" none (.cons (.nm 0) (.cons (.nm 1) (.cons (.ix (.nm 2) (.int 2)) .nil))))) (.seq (.re (.str "unseen")) .nop) .nop) (.seq (.if_ (.cm .ne (.ix (.ix (.nm 1) (.int 3)) (.ca "_law_lock" none (.cons (.nm 0) (.cons (.tu (.cons (.str "box") (.cons (.ix (.nm 2) (.int 2)) .nil))) .nil)))) (.str "open")) (.seq (.re (.str "closed")) .nop) .nop) (.seq (.re (.ie (.cm .ge (.bf .len (.cons (.lc (.nm 5) (.ix (.nm 1) (.int 2)) (.cm .eq (.nm 5) (.tu (.cons (.str "box") (.cons (.ix (.nm 2) (.int 2)) .nil)))) (.nm 5)) .nil)) (.ix (.ix (.ix (.ix (.nm 0) (.int 4)) (.ix (.nm 2) (.int 2))) (.int 4)) (.int 0))) (.str "full") (.str ""))) .nop))))) .nop) (.seq (.as_ 4 (.ix (.ix (.nm 1) (.int 3)) (.ca "_law_lock" none (.cons (.nm 0) (.cons (.ix (.nm 2) (.int 1)) .nil))))) (.seq (.if_ (.cm .eq (.nm 3) (.str "open")) (.seq (.re (.ie (.cm .eq (.nm 4) (.str "closed")) (.str "") (.nm 4))) .nop) .nop) (.seq (.if_ (.cm .eq (.nm 3) (.str "close")) (.seq (.re (.ie (.cm .eq (.nm 4) (.str "open")) (.str "") (.str "closed"))) .nop) .nop) (.seq (.if_ (.cm .ne (.ix (.ix (.nm 1) (.int 2)) (.ix (.nm 2) (.int 2))) (.tu (.cons (.str "held") .nil))) (.seq (.re (.str "lacking")) .nop) .nop) (.seq (.if_ (.cm .nin (.tu (.cons (.ix (.nm 2) (.int 2)) (.cons (.ix (.nm 2) (.int 1)) .nil))) (.ix (.nm 0) (.int 5))) (.seq (.re (.str "key")) .nop) .nop) (.seq (.if_ (.cm .eq (.nm 3) (.str "unlock")) (.seq (.re (.ie (.cm .eq (.nm 4) (.str "locked")) (.str "") (.str "unlocked"))) .nop) .nop) (.seq (.re (.ie (.cm .eq (.nm 4) (.str "closed")) (.str "") (.nm 4))) .nop)))))))))⟩
def N_law_put : List Str := ["row", "spot", "value"]
def F_law_put : Fn := ⟨false, 3, 3,
  (.seq (.re (.bi .add (.bi .add (.sl (.nm 0) .nil (.nm 1)) (.tu (.cons (.nm 2) .nil))) (.sl (.nm 0) (.bi .add (.nm 1) (.int 1)) .nil))) .nop)⟩
def N_law_effect : List Str := ["world", "now", "one", "word", "step"]
def F_law_effect : Fn := ⟨false, 3, 5,
  (.seq (.as_ 3 (.ix (.nm 2) (.int 0))) (.seq (.if_ (.cm .eq (.nm 3) (.str "bring")) (.seq (.re (.bi .add (.bi .add (.sl (.nm 1) .nil (.int 2)) (.tu (.cons (.ca "_law_put" none (.cons (.ix (.nm 1) (.int 2)) (.cons (.ix (.nm 2) (.int 1)) (.cons (.ix (.nm 2) (.int 2)) .nil)))) .nil))) (.sl (.nm 1) (.int 3) .nil))) .nop) .nop) (.seq (.if_ (.cm .in_ (.nm 3) (.tu (.cons (.str "open") (.cons (.str "close") (.cons (.str "lock") .nil))))) (.seq (.re (.bi .add (.bi .add (.sl (.nm 1) .nil (.int 3)) (.tu (.cons (.ca "_law_put" none (.cons (.ix (.nm 1) (.int 3)) (.cons (.ca "_law_lock" none (.cons (.nm 0) (.cons (.ix (.nm 2) (.int 1)) .nil))) (.cons (.ix (.di (.cons (.str "open") (.cons (.str "open") (.cons (.str "close") (.cons (.str "closed") (.cons (.str "lock") (.cons (.str "locked") .nil))))))) (.nm 3)) .nil)))) .nil))) (.sl (.nm 1) (.int 4) .nil))) .nop) .nop) (.seq (.if_ (.cm .in_ (.nm 3) (.tu (.cons (.str "lit") (.cons (.str "out") .nil)))) (.seq (.re (.bi .add (.bi .add (.sl (.nm 1) .nil (.int 4)) (.tu (.cons (.ca "_law_put" none (.cons (.ix (.nm 1) (.int 4)) (.cons (.ca "_law_lamp" none (.cons (.nm 0) (.cons (.ix (.nm 2) (.int 1)) .nil))) (.cons (.nm 3) .nil)))) .nil))) (.sl (.nm 1) (.int 5) .nil))) .nop) .nop) (.seq (.if_ (.cm .in_ (.nm 3) (.tu (.cons (.str "on") (.cons (.str "off") .nil)))) (.seq (.re (.bi .add (.bi .add (.sl (.nm 1) .nil (.int 5)) (.tu (.cons (.ca "_law_put" none (.cons (.ix (.nm 1) (.int 5)) (.cons (.ix (.nm 2) (.int 1)) (.cons (.nm 3) .nil)))) .nil))) (.sl (.nm 1) (.int 6) .nil))) .nop) .nop) (.seq (.if_ (.cm .eq (.nm 3) (.str "go")) (.seq (.re (.bi .add (.bi .add (.sl (.nm 1) .nil (.int 1)) (.tu (.cons (.ix (.nm 2) (.int 1)) .nil))) (.sl (.nm 1) (.int 2) .nil))) .nop) .nop) (.seq (.as_ 4 (.ie (.cm .eq (.nm 3) (.str "more")) (.int 1) (.neg (.int 1)))) (.seq (.re (.bi .add (.sl (.nm 1) .nil (.int 6)) (.tu (.cons (.ca "_law_put" none (.cons (.ix (.nm 1) (.int 6)) (.cons (.ix (.nm 2) (.int 1)) (.cons (.bf .max (.cons (.int 0) (.cons (.bf .min (.cons (.int 99) (.cons (.bi .add (.ix (.ix (.nm 1) (.int 6)) (.ix (.nm 2) (.int 1))) (.nm 4)) .nil))) .nil))) .nil)))) .nil)))) .nop))))))))⟩
def N_law_done : List Str := ["world", "now", "deed", "rules", "said", "word", "condition", "effects", "place", "one"]
def F_law_done : Fn := ⟨false, 3, 10,
  (.seq (.par [4, 5] (.cons (.tu .nil) (.cons (.ix (.nm 2) (.int 0)) .nil))) (.seq (.if_ (.cm .eq (.nm 5) (.str "go")) (.seq (.as_ 1 (.bi .add (.bi .add (.sl (.nm 1) .nil (.int 1)) (.tu (.cons (.ix (.lc (.nm 9) (.ca "_law_exits" none (.cons (.nm 0) (.cons (.ix (.nm 1) (.int 1)) .nil))) (.cm .eq (.ix (.nm 9) (.int 0)) (.ix (.nm 2) (.int 1))) (.ix (.nm 9) (.int 1))) (.int 0)) .nil))) (.sl (.nm 1) (.int 2) .nil))) .nop) (.seq (.if_ (.cm .in_ (.nm 5) (.tu (.cons (.str "take") (.cons (.str "drop") (.cons (.str "put") .nil))))) (.seq (.as_ 8 (.ix (.di (.cons (.str "take") (.cons (.tu (.cons (.str "held") .nil)) (.cons (.str "drop") (.cons (.tu (.cons (.str "room") (.cons (.ix (.nm 1) (.int 1)) .nil))) (.cons (.str "put") (.cons (.tu (.cons (.str "box") (.cons (.ix (.nm 2) (.neg (.int 1))) .nil))) .nil))))))) (.nm 5))) (.seq (.as_ 1 (.ca "_law_effect" none (.cons (.nm 0) (.cons (.nm 1) (.cons (.tu (.cons (.str "bring") (.cons (.ix (.nm 2) (.int 1)) (.cons (.nm 8) .nil)))) .nil))))) (.seq (.fz 1) .nop))) (.seq (.if_ (.cm .in_ (.nm 5) (.tu (.cons (.str "light") (.cons (.str "douse") .nil)))) (.seq (.as_ 1 (.ca "_law_effect" none (.cons (.nm 0) (.cons (.nm 1) (.cons (.tu (.cons (.ix (.di (.cons (.str "light") (.cons (.str "lit") (.cons (.str "douse") (.cons (.str "out") .nil))))) (.nm 5)) (.cons (.ix (.nm 2) (.int 1)) .nil))) .nil))))) (.seq (.fz 1) .nop)) (.seq (.if_ (.cm .in_ (.nm 5) (.tu (.cons (.str "open") (.cons (.str "close") (.cons (.str "unlock") (.cons (.str "lock") .nil)))))) (.seq (.as_ 1 (.ca "_law_effect" none (.cons (.nm 0) (.cons (.nm 1) (.cons (.tu (.cons (.me .get (.di (.cons (.str "unlock") (.cons (.str "close") .nil))) (.cons (.nm 5) (.cons (.nm 5) .nil))) (.cons (.ix (.nm 2) (.int 1)) .nil))) .nil))))) (.seq (.fz 1) .nop)) .nop) .nop)) .nop)) .nop)) (.seq (.as_ 3 (.ie (.cm .eq (.nm 5) (.str "do")) (.li (.cons (.tu (.cons (.tu (.cons (.str "always") .nil)) (.cons (.ix (.ix (.ix (.nm 0) (.int 8)) (.ix (.nm 2) (.int 1))) (.int 3)) .nil))) .nil)) (.li .nil))) (.seq (.fz 3) (.seq (.fo (.tu [6, 7]) (.bi .add (.nm 3) (.bf .list (.cons (.ix (.nm 0) (.int 9)) .nil))) (.seq (.if_ (.ca "_law_holds" none (.cons (.nm 0) (.cons (.nm 1) (.cons (.nm 6) .nil)))) (.seq (.fo (.nm 9) (.nm 7) (.seq (.if_ (.cm .eq (.ix (.nm 9) (.int 0)) (.str "say")) (.seq (.as_ 4 (.bi .add (.nm 4) (.tu (.cons (.ix (.nm 9) (.int 1)) .nil)))) .nop) (.seq (.as_ 1 (.ca "_law_effect" none (.cons (.nm 0) (.cons (.nm 1) (.cons (.nm 9) .nil))))) (.seq (.fz 1) .nop))) .nop)) .nop) .nop) .nop)) (.seq (.re (.tu (.cons (.nm 1) (.cons (.nm 4) .nil)))) .nop))))))⟩
def N_law_all : List Str := ["world", "told", "room", "found", "free", "boxes_v", "k", "lock", "thing", "one", "box"]
def F_law_all : Fn := ⟨false, 1, 11,
  (.seq (.as_ 1 (.li .nil)) (.seq (.fz 1) (.seq (.fo (.nm 2) (.r1 (.bf .len (.cons (.ix (.nm 0) (.int 1)) .nil))) (.seq (.as_ 1 (.bi .add (.nm 1) (.lc (.nm 9) (.ca "_law_exits" none (.cons (.nm 0) (.cons (.nm 2) .nil))) (.bl true) (.ix (.nm 9) (.int 0))))) (.seq (.fz 1) .nop))) (.seq (.as_ 3 (.lc (.nm 9) (.tu (.cons (.str "north") (.cons (.str "south") (.cons (.str "east") (.cons (.str "west") (.cons (.str "up") (.cons (.str "down") (.cons (.str "in") (.cons (.str "out") .nil))))))))) (.cm .in_ (.nm 9) (.nm 1)) (.tu (.cons (.str "go") (.cons (.nm 9) .nil))))) (.seq (.fz 3) (.seq (.as_ 4 (.lc (.nm 6) (.r1 (.bf .len (.cons (.ix (.nm 0) (.int 4)) .nil))) (.cm .in_ (.ix (.ix (.ix (.nm 0) (.int 4)) (.nm 6)) (.int 2)) (.tu (.cons (.str "thing") (.cons (.str "lamp") .nil)))) (.nm 6))) (.seq (.fz 4) (.seq (.as_ 5 (.lc (.nm 6) (.r1 (.bf .len (.cons (.ix (.nm 0) (.int 4)) .nil))) (.cm .eq (.ix (.ix (.ix (.nm 0) (.int 4)) (.nm 6)) (.int 2)) (.str "box")) (.nm 6))) (.seq (.fz 5) (.seq (.as_ 3 (.bi .add (.bi .add (.nm 3) (.lc (.nm 6) (.nm 4) (.bl true) (.tu (.cons (.str "take") (.cons (.nm 6) .nil))))) (.lc (.nm 6) (.nm 4) (.bl true) (.tu (.cons (.str "drop") (.cons (.nm 6) .nil)))))) (.seq (.fz 3) (.seq (.fo (.nm 6) (.nm 4) (.seq (.as_ 3 (.bi .add (.nm 3) (.lc (.nm 10) (.nm 5) (.bl true) (.tu (.cons (.str "put") (.cons (.nm 6) (.cons (.nm 10) .nil))))))) (.seq (.fz 3) .nop))) (.seq (.fo (.nm 7) (.bi .add (.lc (.nm 6) (.r1 (.bf .len (.cons (.ix (.nm 0) (.int 3)) .nil))) (.bl true) (.tu (.cons (.str "door") (.cons (.nm 6) .nil)))) (.lc (.nm 6) (.nm 5) (.bl true) (.tu (.cons (.str "box") (.cons (.nm 6) .nil))))) (.seq (.as_ 3 (.bi .add (.nm 3) (.li (.cons (.tu (.cons (.str "open") (.cons (.nm 7) .nil))) (.cons (.tu (.cons (.str "close") (.cons (.nm 7) .nil))) .nil))))) (.seq (.fz 3) .nop))) (.seq (.fo (.tu [8, 7]) (.bf .sorted (.cons (.ix (.nm 0) (.int 5)) .nil)) (.seq (.as_ 3 (.bi .add (.nm 3) (.li (.cons (.tu (.cons (.str "unlock") (.cons (.nm 7) (.cons (.nm 8) .nil)))) (.cons (.tu (.cons (.str "lock") (.cons (.nm 7) (.cons (.nm 8) .nil)))) .nil))))) (.seq (.fz 3) .nop))) (.seq (.fo (.nm 6) (.r1 (.bf .len (.cons (.ix (.nm 0) (.int 4)) .nil))) (.seq (.as_ 3 (.bi .add (.nm 3) (.ie (.cm .eq (.ix (.ix (.ix (.nm 0) (.int 4)) (.nm 6)) (.int 2)) (.str "lamp")) (.li (.cons (.tu (.cons (.str "light") (.cons (.nm 6) .nil))) (.cons (.tu (.cons (.str "douse") (.cons (.nm 6) .nil))) .nil))) (.li .nil)))) (.seq (.fz 3) .nop))) (.seq (.re (.bi .add (.bi .add (.nm 3) (.lc (.nm 6) (.r1 (.bf .len (.cons (.ix (.nm 0) (.int 8)) .nil))) (.bl true) (.tu (.cons (.str "do") (.cons (.nm 6) .nil))))) (.li (.cons (.tu (.cons (.str "wait") .nil)) .nil)))) .nop))))))))))))))))⟩
def N_law_met : List Str := ["state", "world", "now", "turn", "row", "deed"]
def F_law_met : Fn := ⟨true, 1, 6,
  (.seq (.as_ 2 (.ca "_law_start" none (.cons (.nm 1) .nil))) (.seq (.fz 2) (.seq (.fo (.nm 3) (.r1 (.ca "_law_take" (some 0) (.cons (.int 9) .nil))) (.seq (.as_ 4 (.lc (.nm 5) (.ca "_law_all" none (.cons (.nm 1) .nil)) (.cm .eq (.ca "_law_refused" none (.cons (.nm 1) (.cons (.nm 2) (.cons (.nm 5) .nil)))) (.str "")) (.nm 5))) (.seq (.fz 4) (.seq (.if_ (.cm .eq (.nm 4) (.li .nil)) (.seq (.re (.nm 2)) .nop) .nop) (.seq (.as_ 2 (.ix (.ca "_law_done" none (.cons (.nm 1) (.cons (.nm 2) (.cons (.ca "_law_pick" (some 0) (.cons (.nm 4) .nil)) .nil)))) (.int 0))) .nop))))) (.seq (.re (.nm 2)) .nop))))⟩
def N_law_sight : List Str := ["world", "now", "end", "things", "locks_v", "lock", "k", "shut", "place", "room"]
def F_law_sight : Fn := ⟨false, 2, 10,
  (.seq (.as_ 2 (.ca "_law_end" none (.cons (.nm 0) (.cons (.nm 1) .nil)))) (.seq (.fz 2) (.seq (.if_ (.or (.cm .ne (.li (.cons (.ca "is_won" none (.cons (.nm 0) (.cons (.nm 1) .nil))) (.cons (.ca "is_lost" none (.cons (.nm 0) (.cons (.nm 1) .nil))) (.cons (.ca "is_over" none (.cons (.nm 0) (.cons (.nm 1) .nil))) .nil)))) (.li (.cons (.cm .eq (.nm 2) (.str "won")) (.cons (.cm .eq (.nm 2) (.str "lost")) (.cons (.cm .ne (.nm 2) (.str "on")) .nil))))) (.cm .ne (.ca "is_bright" none (.cons (.nm 0) (.cons (.nm 1) .nil))) (.ca "_law_bright" none (.cons (.nm 0) (.cons (.nm 1) .nil))))) (.seq (.re (.bl false)) .nop) .nop) (.seq (.as_ 3 (.l1 (.bf .len (.cons (.ix (.nm 0) (.int 4)) .nil)))) (.seq (.fz 3) (.seq (.if_ (.or (.cm .ne (.lc (.nm 6) (.nm 3) (.bl true) (.ca "is_seen" none (.cons (.nm 0) (.cons (.nm 1) (.cons (.nm 6) .nil))))) (.lc (.nm 6) (.nm 3) (.bl true) (.ca "_law_sees" none (.cons (.nm 0) (.cons (.nm 1) (.cons (.nm 6) .nil)))))) (.cm .ne (.ca "seen" none (.cons (.nm 0) (.cons (.nm 1) .nil))) (.lc (.nm 6) (.nm 3) (.ca "_law_sees" none (.cons (.nm 0) (.cons (.nm 1) (.cons (.nm 6) .nil)))) (.nm 6)))) (.seq (.re (.bl false)) .nop) .nop) (.seq (.as_ 4 (.bi .add (.lc (.nm 6) (.r1 (.bf .len (.cons (.ix (.nm 0) (.int 3)) .nil))) (.bl true) (.tu (.cons (.str "door") (.cons (.nm 6) .nil)))) (.lc (.nm 6) (.nm 3) (.cm .eq (.ix (.ix (.ix (.nm 0) (.int 4)) (.nm 6)) (.int 2)) (.str "box")) (.tu (.cons (.str "box") (.cons (.nm 6) .nil)))))) (.seq (.fz 4) (.seq (.if_ (.or (.cm .ne (.lc (.nm 5) (.nm 4) (.bl true) (.ca "is_lock_seen" none (.cons (.nm 0) (.cons (.nm 1) (.cons (.nm 5) .nil))))) (.lc (.nm 5) (.nm 4) (.bl true) (.ca "_law_sees" none (.cons (.nm 0) (.cons (.nm 1) (.cons (.nm 5) .nil)))))) (.cm .ne (.lc (.nm 5) (.nm 4) (.bl true) (.ca "lock_state" none (.cons (.nm 0) (.cons (.nm 1) (.cons (.nm 5) .nil))))) (.bf .list (.cons (.ix (.nm 1) (.int 3)) .nil)))) (.seq (.re (.bl false)) .nop) .nop) (.seq (.if_ (.cm .ne (.ca "held" none (.cons (.nm 0) (.cons (.nm 1) .nil))) (.lc (.nm 6) (.nm 3) (.cm .eq (.ix (.ix (.nm 1) (.int 2)) (.nm 6)) (.tu (.cons (.str "held") .nil))) (.nm 6))) (.seq (.re (.bl false)) .nop) .nop) (.seq (.if_ (.cm .ne (.lc (.nm 9) (.r1 (.bf .len (.cons (.ix (.nm 0) (.int 1)) .nil))) (.bl true) (.ca "lying" none (.cons (.nm 0) (.cons (.nm 1) (.cons (.nm 9) .nil))))) (.lc (.nm 9) (.r1 (.bf .len (.cons (.ix (.nm 0) (.int 1)) .nil))) (.bl true) (.lc (.nm 6) (.nm 3) (.cm .eq (.ix (.ix (.nm 1) (.int 2)) (.nm 6)) (.tu (.cons (.str "room") (.cons (.nm 9) .nil)))) (.nm 6)))) (.seq (.re (.bl false)) .nop) .nop) (.seq (.fo (.nm 5) (.nm 4) (.seq (.if_ (.an (.cm .eq (.ix (.nm 5) (.int 0)) (.str "box")) (.cm .ne (.ca "inside" none (.cons (.nm 0) (.cons (.nm 1) (.cons (.ix (.nm 5) (.int 1)) .nil)))) (.lc (.nm 6) (.nm 3) (.cm .eq (.ix (.ix (.nm 1) (.int 2)) (.nm 6)) (.nm 5)) (.nm 6)))) (.seq (.re (.bl false)) .nop) .nop) .nop)) (.seq (.fo (.nm 6) (.nm 3) (.seq (.par [8, 9] (.cons (.ix (.ix (.nm 1) (.int 2)) (.nm 6)) (.cons .non .nil))) (.seq (.if_ (.cm .eq (.nm 8) (.tu (.cons (.str "held") .nil))) (.seq (.as_ 9 (.ix (.nm 1) (.int 1))) .nop) (.seq (.if_ (.cm .eq (.ix (.nm 8) (.int 0)) (.str "room")) (.seq (.as_ 9 (.ix (.nm 8) (.int 1))) .nop) (.seq (.if_ (.an (.cm .eq (.ix (.nm 8) (.int 0)) (.str "box")) (.cm .eq (.ix (.ix (.ix (.nm 1) (.int 2)) (.ix (.nm 8) (.int 1))) (.int 0)) (.str "room"))) (.seq (.as_ 9 (.ix (.ix (.ix (.nm 1) (.int 2)) (.ix (.nm 8) (.int 1))) (.int 1))) .nop) .nop) .nop)) .nop)) (.seq (.as_ 7 (.an (.cm .eq (.ix (.nm 8) (.int 0)) (.str "box")) (.cm .ne (.ix (.ix (.nm 1) (.int 3)) (.ca "_law_lock" none (.cons (.nm 0) (.cons (.nm 8) .nil)))) (.str "open")))) (.seq (.if_ (.or (.cm .ne (.ca "room_of" none (.cons (.nm 0) (.cons (.nm 1) (.cons (.nm 6) .nil)))) (.nm 9)) (.cm .ne (.ca "is_shut_in" none (.cons (.nm 0) (.cons (.nm 1) (.cons (.nm 6) .nil)))) (.nm 7))) (.seq (.re (.bl false)) .nop) .nop) .nop))))) (.seq (.re (.bl true)) .nop))))))))))))))⟩
def N_law_parts : List Str := ["world", "now", "other", "rows", "part", "step", "k"]
def F_law_parts : Fn := ⟨false, 3, 7,
  (.seq (.as_ 3 (.ie (.cm .ne (.ix (.nm 1) (.int 1)) (.ix (.nm 2) (.int 1))) (.li (.cons (.tu (.cons (.int 1) (.cons (.int 0) .nil))) .nil)) (.li .nil))) (.seq (.fz 3) (.seq (.fo (.nm 4) (.r2 (.int 2) (.int 7)) (.seq (.as_ 3 (.bi .add (.nm 3) (.lc (.nm 6) (.r1 (.bf .len (.cons (.ix (.nm 1) (.nm 4)) .nil))) (.cm .ne (.ix (.ix (.nm 1) (.nm 4)) (.nm 6)) (.ix (.ix (.nm 2) (.nm 4)) (.nm 6))) (.tu (.cons (.nm 4) (.cons (.nm 6) .nil)))))) (.seq (.fz 3) .nop))) (.seq (.if_ (.or (.cm .ne (.ca "differences" none (.cons (.nm 1) (.cons (.nm 2) .nil))) (.nm 3)) (.or (.cm .ne (.ca "differences" none (.cons (.nm 1) (.cons (.nm 1) .nil))) (.li .nil)) (.cm .ne (.ca "sizes" none (.cons (.nm 0) .nil)) (.lc (.nm 4) (.sl (.nm 1) (.int 2) .nil) (.bl true) (.bf .len (.cons (.nm 4) .nil)))))) (.seq (.re (.bl false)) .nop) .nop) (.seq (.as_ 5 (.nm 1)) (.seq (.fo (.tu [4, 6]) (.nm 3) (.seq (.as_ 5 (.ie (.cm .gt (.nm 4) (.int 1)) (.ca "with_part" none (.cons (.nm 5) (.cons (.nm 4) (.cons (.nm 6) (.cons (.ix (.ix (.nm 2) (.nm 4)) (.nm 6)) .nil))))) (.bi .add (.bi .add (.sl (.nm 5) .nil (.int 1)) (.tu (.cons (.ix (.nm 2) (.int 1)) .nil))) (.sl (.nm 5) (.int 2) .nil)))) (.seq (.fz 5) .nop))) (.seq (.re (.an (.cm .eq (.nm 5) (.nm 2)) (.or (.cm .eq (.ix (.nm 1) (.int 6)) (.tu .nil)) (.cm .eq (.ix (.ix (.ca "with_part" none (.cons (.nm 1) (.cons (.int 6) (.cons (.int 0) (.cons (.int 7) .nil))))) (.int 6)) (.int 0)) (.int 7))))) .nop)))))))⟩
def N_law_bent : List Str := ["world", "now", "bad", "k", "value"]
def F_law_bent : Fn := ⟨false, 2, 5,
  (.seq (.as_ 2 (.li (.cons .non (.cons (.bf .list (.cons (.nm 1) .nil)) (.cons (.sl (.nm 1) .nil (.int 6)) (.cons (.bi .add (.nm 1) (.tu (.cons (.tu .nil) .nil))) (.cons (.bi .add (.tu (.cons (.str "stated") .nil)) (.sl (.nm 1) (.int 1) .nil)) (.cons (.bi .add (.bi .add (.sl (.nm 1) .nil (.int 1)) (.tu (.cons (.bf .len (.cons (.ix (.nm 0) (.int 1)) .nil)) .nil))) (.sl (.nm 1) (.int 2) .nil)) (.cons (.bi .add (.bi .add (.sl (.nm 1) .nil (.int 1)) (.tu (.cons (.bl true) .nil))) (.sl (.nm 1) (.int 2) .nil)) (.cons (.bi .add (.bi .add (.sl (.nm 1) .nil (.int 2)) (.tu (.cons (.bf .list (.cons (.ix (.nm 1) (.int 2)) .nil)) .nil))) (.sl (.nm 1) (.int 3) .nil)) .nil)))))))))) (.seq (.as_ 2 (.bi .add (.nm 2) (.li (.cons (.bi .add (.bi .add (.sl (.nm 1) .nil (.int 2)) (.tu (.cons (.bi .add (.ix (.nm 1) (.int 2)) (.tu (.cons (.tu (.cons (.str "gone") .nil)) .nil))) .nil))) (.sl (.nm 1) (.int 3) .nil)) (.cons (.bi .add (.bi .add (.sl (.nm 1) .nil (.int 5)) (.tu (.cons (.tu (.cons (.str "dim") .nil)) .nil))) (.sl (.nm 1) (.int 6) .nil)) (.cons (.bi .add (.sl (.nm 1) .nil (.int 6)) (.tu (.cons (.tu (.cons (.int 100) .nil)) .nil))) (.cons (.bi .add (.sl (.nm 1) .nil (.int 6)) (.tu (.cons (.tu (.cons (.bl true) .nil)) .nil))) (.cons (.bi .add (.bi .add (.sl (.nm 1) .nil (.int 3)) (.tu (.cons (.bi .add (.ix (.nm 1) (.int 3)) (.tu (.cons (.str "open") .nil))) .nil))) (.sl (.nm 1) (.int 4) .nil)) .nil)))))))) (.seq (.as_ 2 (.bi .add (.nm 2) (.li (.cons (.bi .add (.bi .add (.sl (.nm 1) .nil (.int 4)) (.tu (.cons (.bi .add (.ix (.nm 1) (.int 4)) (.tu (.cons (.str "lit") .nil))) .nil))) (.sl (.nm 1) (.int 5) .nil)) .nil)))) (.seq (.fo (.nm 3) (.r1 (.bf .len (.cons (.ix (.nm 0) (.int 4)) .nil))) (.seq (.ap 2 (.bi .add (.bi .add (.sl (.nm 1) .nil (.int 2)) (.tu (.cons (.ca "_law_put" none (.cons (.ix (.nm 1) (.int 2)) (.cons (.nm 3) (.cons (.tu (.cons (.str "room") (.cons (.int 77) .nil))) .nil)))) .nil))) (.sl (.nm 1) (.int 3) .nil))) (.seq (.if_ (.cm .in_ (.ix (.ix (.ix (.nm 0) (.int 4)) (.nm 3)) (.int 2)) (.tu (.cons (.str "box") (.cons (.str "fixed") .nil)))) (.seq (.ap 2 (.bi .add (.bi .add (.sl (.nm 1) .nil (.int 2)) (.tu (.cons (.ca "_law_put" none (.cons (.ix (.nm 1) (.int 2)) (.cons (.nm 3) (.cons (.tu (.cons (.str "held") .nil)) .nil)))) .nil))) (.sl (.nm 1) (.int 3) .nil))) .nop) .nop) .nop))) (.seq (.if_ (.cm .ne (.ix (.nm 1) (.int 3)) (.tu .nil)) (.seq (.ap 2 (.bi .add (.bi .add (.sl (.nm 1) .nil (.int 3)) (.tu (.cons (.bi .add (.tu (.cons (.str "ajar") .nil)) (.sl (.ix (.nm 1) (.int 3)) (.int 1) .nil)) .nil))) (.sl (.nm 1) (.int 4) .nil))) .nop) .nop) (.seq (.re (.cm .eq (.bf .len (.cons (.lc (.nm 4) (.nm 2) (.cm .isn (.ca "is_state" none (.cons (.nm 0) (.cons (.nm 4) .nil))) (.bl false)) (.nm 4)) .nil)) (.int 0))) .nop))))))⟩
def N_law : List Str := ["script", "state", "turn", "world", "now", "other"]
def F_law : Fn := ⟨false, 1, 6,
  (.seq (.fo (.nm 2) (.r1 (.int 8)) (.seq (.as_ 3 (.ca "_law_world" (some 1) (.cons (.int 4) (.cons (.int 3) .nil)))) (.seq (.fz 3) (.seq (.par [4, 5] (.cons (.ca "_law_met" (some 1) (.cons (.nm 3) .nil)) (.cons (.ca "_law_met" (some 1) (.cons (.nm 3) .nil)) .nil))) (.seq (.fz 4) (.seq (.fz 5) (.seq (.if_ (.or (.cm .ne (.ca "start" none (.cons (.nm 3) .nil)) (.ca "_law_start" none (.cons (.nm 3) .nil))) (.or (.cm .isn (.ca "is_state" none (.cons (.nm 3) (.cons (.nm 4) .nil))) (.bl true)) (.or (.no (.ca "_law_sight" none (.cons (.nm 3) (.cons (.nm 4) .nil)))) (.or (.no (.ca "_law_parts" none (.cons (.nm 3) (.cons (.nm 4) (.cons (.nm 5) .nil))))) (.no (.ca "_law_bent" none (.cons (.nm 3) (.cons (.nm 4) .nil)))))))) (.seq (.re (.bl false)) .nop) .nop) .nop))))))) (.seq (.re (.bl true)) .nop))⟩
def prog : Prog :=
  [(("lock_number" : Str), F_lock_number),
   (("lamp_number" : Str), F_lamp_number),
   (("holds" : Str), F_holds),
   (("single" : Str), F_single),
   (("is_whole" : Str), F_is_whole),
   (("is_one_of" : Str), F_is_one_of),
   (("is_place" : Str), F_is_place),
   (("may_be" : Str), F_may_be),
   (("boxes" : Str), F_boxes),
   (("lamps" : Str), F_lamps),
   (("locks" : Str), F_locks),
   (("start" : Str), F_start),
   (("is_state" : Str), F_is_state),
   (("sizes" : Str), F_sizes),
   (("is_won" : Str), F_is_won),
   (("is_lost" : Str), F_is_lost),
   (("is_over" : Str), F_is_over),
   (("room_of" : Str), F_room_of),
   (("is_shut_in" : Str), F_is_shut_in),
   (("is_bright" : Str), F_is_bright),
   (("is_seen" : Str), F_is_seen),
   (("is_lock_seen" : Str), F_is_lock_seen),
   (("seen" : Str), F_seen),
   (("held" : Str), F_held),
   (("inside" : Str), F_inside),
   (("lying" : Str), F_lying),
   (("lock_state" : Str), F_lock_state),
   (("with_part" : Str), F_with_part),
   (("differences" : Str), F_differences),
   (("_law_pick" : Str), F_law_pick),
   (("_law_some" : Str), F_law_some),
   (("_law_back" : Str), F_law_back),
   (("_law_ways" : Str), F_law_ways),
   (("_law_things" : Str), F_law_things),
   (("_law_single" : Str), F_law_single),
   (("_law_condition" : Str), F_law_condition),
   (("_law_effects" : Str), F_law_effects),
   (("_law_world" : Str), F_law_world),
   (("_law_lock" : Str), F_law_lock),
   (("_law_lamp" : Str), F_law_lamp),
   (("_law_start" : Str), F_law_start),
   (("_law_holds" : Str), F_law_holds),
   (("_law_exits" : Str), F_law_exits),
   (("_law_near" : Str), F_law_near),
   (("_law_bright" : Str), F_law_bright),
   (("_law_sees" : Str), F_law_sees),
   (("_law_end" : Str), F_law_end),
   (("_law_refused" : Str), F_law_refused),
   (("_law_refused_more" : Str), F_law_refused_more),
   (("_law_put" : Str), F_law_put),
   (("_law_effect" : Str), F_law_effect),
   (("_law_done" : Str), F_law_done),
   (("_law_all" : Str), F_law_all),
   (("_law_met" : Str), F_law_met),
   (("_law_sight" : Str), F_law_sight),
   (("_law_parts" : Str), F_law_parts),
   (("_law_bent" : Str), F_law_bent)]
def fs : List (Str × Bool × Nat) :=
  [(("_law_take" : Str), true, 2), (("lock_number" : Str), false, 2), (("lamp_number" : Str), false, 2), (("holds" : Str), false, 3), (("single" : Str), false, 3), (("is_whole" : Str), false, 3), (("is_one_of" : Str), false, 2), (("is_place" : Str), false, 2), (("may_be" : Str), false, 3), (("boxes" : Str), false, 1), (("lamps" : Str), false, 1), (("locks" : Str), false, 1), (("start" : Str), false, 1), (("is_state" : Str), false, 2), (("sizes" : Str), false, 1), (("is_won" : Str), false, 2), (("is_lost" : Str), false, 2), (("is_over" : Str), false, 2), (("room_of" : Str), false, 3), (("is_shut_in" : Str), false, 3), (("is_bright" : Str), false, 2), (("is_seen" : Str), false, 3), (("is_lock_seen" : Str), false, 3), (("seen" : Str), false, 2), (("held" : Str), false, 2), (("inside" : Str), false, 3), (("lying" : Str), false, 3), (("lock_state" : Str), false, 3), (("with_part" : Str), false, 4), (("differences" : Str), false, 2), (("_law_pick" : Str), true, 2), (("_law_some" : Str), true, 3), (("_law_back" : Str), false, 1), (("_law_ways" : Str), true, 2), (("_law_things" : Str), true, 3), (("_law_single" : Str), true, 2), (("_law_condition" : Str), true, 3), (("_law_effects" : Str), true, 2), (("_law_world" : Str), true, 3), (("_law_lock" : Str), false, 2), (("_law_lamp" : Str), false, 2), (("_law_start" : Str), false, 1), (("_law_holds" : Str), false, 3), (("_law_exits" : Str), false, 2), (("_law_near" : Str), false, 3), (("_law_bright" : Str), false, 2), (("_law_sees" : Str), false, 3), (("_law_end" : Str), false, 2), (("_law_refused" : Str), false, 3), (("_law_refused_more" : Str), false, 3), (("_law_put" : Str), false, 3), (("_law_effect" : Str), false, 3), (("_law_done" : Str), false, 3), (("_law_all" : Str), false, 1), (("_law_met" : Str), true, 2), (("_law_sight" : Str), false, 2), (("_law_parts" : Str), false, 3), (("_law_bent" : Str), false, 2)]
def cs : List Str := ["STATES", "MOST_COUNT"]
def cst (x : Str) : Option Vl := if x = "STATES" then some (.sh (.tuple [(.str "open"), (.str "closed"), (.str "locked")])) else if x = "MOST_COUNT" then some (.sh (.int 99)) else none
end K04
set_option Elab.async false
set_option maxRecDepth 100000
set_option maxHeartbeats 8000000
set_option linter.all false
namespace K04
open Pu PySem PySem.Spec PyProof.Rows L2

def top (i : Nat) : Stmt := PySem.Challenge.pw_toldworlds_k04_whole_states_and_sight.main.body.getD i (.Pass ⟨0, 0, 0, 0⟩)
def DF_lock_number : He.DefD := ⟨("lock_number", none), "lock_number", "lock_number", defArgs (top 1), defBody (top 1), defScope (top 1), [], []⟩
def DF_lamp_number : He.DefD := ⟨("lamp_number", none), "lamp_number", "lamp_number", defArgs (top 2), defBody (top 2), defScope (top 2), [], []⟩
def DF_holds : He.DefD := ⟨("holds", none), "holds", "holds", defArgs (top 3), defBody (top 3), defScope (top 3), [], []⟩
def DF_single : He.DefD := ⟨("single", none), "single", "single", defArgs (top 4), defBody (top 4), defScope (top 4), [], []⟩
def DF_is_whole : He.DefD := ⟨("is_whole", none), "is_whole", "is_whole", defArgs (top 8), defBody (top 8), defScope (top 8), [], []⟩
def DF_is_one_of : He.DefD := ⟨("is_one_of", none), "is_one_of", "is_one_of", defArgs (top 9), defBody (top 9), defScope (top 9), [], []⟩
def DF_is_place : He.DefD := ⟨("is_place", none), "is_place", "is_place", defArgs (top 10), defBody (top 10), defScope (top 10), [], []⟩
def DF_may_be : He.DefD := ⟨("may_be", none), "may_be", "may_be", defArgs (top 11), defBody (top 11), defScope (top 11), [], []⟩
def DF_boxes : He.DefD := ⟨("boxes", none), "boxes", "boxes", defArgs (top 12), defBody (top 12), defScope (top 12), [], []⟩
def DF_lamps : He.DefD := ⟨("lamps", none), "lamps", "lamps", defArgs (top 13), defBody (top 13), defScope (top 13), [], []⟩
def DF_locks : He.DefD := ⟨("locks", none), "locks", "locks", defArgs (top 14), defBody (top 14), defScope (top 14), [], []⟩
def DF_start : He.DefD := ⟨("start", none), "start", "start", defArgs (top 16), defBody (top 16), defScope (top 16), [], []⟩
def DF_is_state : He.DefD := ⟨("is_state", none), "is_state", "is_state", defArgs (top 17), defBody (top 17), defScope (top 17), [], []⟩
def DF_sizes : He.DefD := ⟨("sizes", none), "sizes", "sizes", defArgs (top 18), defBody (top 18), defScope (top 18), [], []⟩
def DF_is_won : He.DefD := ⟨("is_won", none), "is_won", "is_won", defArgs (top 19), defBody (top 19), defScope (top 19), [], []⟩
def DF_is_lost : He.DefD := ⟨("is_lost", none), "is_lost", "is_lost", defArgs (top 20), defBody (top 20), defScope (top 20), [], []⟩
def DF_is_over : He.DefD := ⟨("is_over", none), "is_over", "is_over", defArgs (top 21), defBody (top 21), defScope (top 21), [], []⟩
def DF_room_of : He.DefD := ⟨("room_of", none), "room_of", "room_of", defArgs (top 22), defBody (top 22), defScope (top 22), [], []⟩
def DF_is_shut_in : He.DefD := ⟨("is_shut_in", none), "is_shut_in", "is_shut_in", defArgs (top 23), defBody (top 23), defScope (top 23), [], []⟩
def DF_is_bright : He.DefD := ⟨("is_bright", none), "is_bright", "is_bright", defArgs (top 24), defBody (top 24), defScope (top 24), [], []⟩
def DF_is_seen : He.DefD := ⟨("is_seen", none), "is_seen", "is_seen", defArgs (top 25), defBody (top 25), defScope (top 25), [], []⟩
def DF_is_lock_seen : He.DefD := ⟨("is_lock_seen", none), "is_lock_seen", "is_lock_seen", defArgs (top 26), defBody (top 26), defScope (top 26), [], []⟩
def DF_seen : He.DefD := ⟨("seen", none), "seen", "seen", defArgs (top 27), defBody (top 27), defScope (top 27), [], []⟩
def DF_held : He.DefD := ⟨("held", none), "held", "held", defArgs (top 28), defBody (top 28), defScope (top 28), [], []⟩
def DF_inside : He.DefD := ⟨("inside", none), "inside", "inside", defArgs (top 29), defBody (top 29), defScope (top 29), [], []⟩
def DF_lying : He.DefD := ⟨("lying", none), "lying", "lying", defArgs (top 30), defBody (top 30), defScope (top 30), [], []⟩
def DF_lock_state : He.DefD := ⟨("lock_state", none), "lock_state", "lock_state", defArgs (top 31), defBody (top 31), defScope (top 31), [], []⟩
def DF_with_part : He.DefD := ⟨("with_part", none), "with_part", "with_part", defArgs (top 32), defBody (top 32), defScope (top 32), [], []⟩
def DF_differences : He.DefD := ⟨("differences", none), "differences", "differences", defArgs (top 33), defBody (top 33), defScope (top 33), [], []⟩
def DF_law_state : He.DefD := ⟨("_law_state", none), "_law_state", "_law_state", defArgs (top 35), defBody (top 35), defScope (top 35), [], []⟩
def DF_law_take : He.DefD := ⟨("_law_take", none), "_law_take", "_law_take", defArgs (top 36), defBody (top 36), defScope (top 36), [], []⟩
def DF_law_pick : He.DefD := ⟨("_law_pick", none), "_law_pick", "_law_pick", defArgs (top 37), defBody (top 37), defScope (top 37), [], []⟩
def DF_law_some : He.DefD := ⟨("_law_some", none), "_law_some", "_law_some", defArgs (top 38), defBody (top 38), defScope (top 38), [], []⟩
def DF_law_back : He.DefD := ⟨("_law_back", none), "_law_back", "_law_back", defArgs (top 39), defBody (top 39), defScope (top 39), [], []⟩
def DF_law_ways : He.DefD := ⟨("_law_ways", none), "_law_ways", "_law_ways", defArgs (top 40), defBody (top 40), defScope (top 40), [], []⟩
def DF_law_things : He.DefD := ⟨("_law_things", none), "_law_things", "_law_things", defArgs (top 41), defBody (top 41), defScope (top 41), [], []⟩
def DF_law_single : He.DefD := ⟨("_law_single", none), "_law_single", "_law_single", defArgs (top 42), defBody (top 42), defScope (top 42), [], []⟩
def DF_law_condition : He.DefD := ⟨("_law_condition", none), "_law_condition", "_law_condition", defArgs (top 43), defBody (top 43), defScope (top 43), [], []⟩
def DF_law_effects : He.DefD := ⟨("_law_effects", none), "_law_effects", "_law_effects", defArgs (top 44), defBody (top 44), defScope (top 44), [], []⟩
def DF_law_world : He.DefD := ⟨("_law_world", none), "_law_world", "_law_world", defArgs (top 45), defBody (top 45), defScope (top 45), [], []⟩
def DF_law_lock : He.DefD := ⟨("_law_lock", none), "_law_lock", "_law_lock", defArgs (top 46), defBody (top 46), defScope (top 46), [], []⟩
def DF_law_lamp : He.DefD := ⟨("_law_lamp", none), "_law_lamp", "_law_lamp", defArgs (top 47), defBody (top 47), defScope (top 47), [], []⟩
def DF_law_start : He.DefD := ⟨("_law_start", none), "_law_start", "_law_start", defArgs (top 48), defBody (top 48), defScope (top 48), [], []⟩
def DF_law_holds : He.DefD := ⟨("_law_holds", none), "_law_holds", "_law_holds", defArgs (top 49), defBody (top 49), defScope (top 49), [], []⟩
def DF_law_exits : He.DefD := ⟨("_law_exits", none), "_law_exits", "_law_exits", defArgs (top 50), defBody (top 50), defScope (top 50), [], []⟩
def DF_law_near : He.DefD := ⟨("_law_near", none), "_law_near", "_law_near", defArgs (top 51), defBody (top 51), defScope (top 51), [], []⟩
def DF_law_bright : He.DefD := ⟨("_law_bright", none), "_law_bright", "_law_bright", defArgs (top 52), defBody (top 52), defScope (top 52), [], []⟩
def DF_law_sees : He.DefD := ⟨("_law_sees", none), "_law_sees", "_law_sees", defArgs (top 53), defBody (top 53), defScope (top 53), [], []⟩
def DF_law_end : He.DefD := ⟨("_law_end", none), "_law_end", "_law_end", defArgs (top 54), defBody (top 54), defScope (top 54), [], []⟩
def DF_law_refused : He.DefD := ⟨("_law_refused", none), "_law_refused", "_law_refused", defArgs (top 55), defBody (top 55), defScope (top 55), [], []⟩
def DF_law_refused_more : He.DefD := ⟨("_law_refused_more", none), "_law_refused_more", "_law_refused_more", defArgs (top 56), defBody (top 56), defScope (top 56), [], []⟩
def DF_law_put : He.DefD := ⟨("_law_put", none), "_law_put", "_law_put", defArgs (top 57), defBody (top 57), defScope (top 57), [], []⟩
def DF_law_effect : He.DefD := ⟨("_law_effect", none), "_law_effect", "_law_effect", defArgs (top 58), defBody (top 58), defScope (top 58), [], []⟩
def DF_law_done : He.DefD := ⟨("_law_done", none), "_law_done", "_law_done", defArgs (top 59), defBody (top 59), defScope (top 59), [], []⟩
def DF_law_all : He.DefD := ⟨("_law_all", none), "_law_all", "_law_all", defArgs (top 60), defBody (top 60), defScope (top 60), [], []⟩
def DF_law_met : He.DefD := ⟨("_law_met", none), "_law_met", "_law_met", defArgs (top 61), defBody (top 61), defScope (top 61), [], []⟩
def DF_law_sight : He.DefD := ⟨("_law_sight", none), "_law_sight", "_law_sight", defArgs (top 62), defBody (top 62), defScope (top 62), [], []⟩
def DF_law_parts : He.DefD := ⟨("_law_parts", none), "_law_parts", "_law_parts", defArgs (top 63), defBody (top 63), defScope (top 63), [], []⟩
def DF_law_bent : He.DefD := ⟨("_law_bent", none), "_law_bent", "_law_bent", defArgs (top 64), defBody (top 64), defScope (top 64), [], []⟩
def DF_law : He.DefD := ⟨("law", none), "law", "law", defArgs (top 65), defBody (top 65), defScope (top 65), [], []⟩
theorem fdF_lock_number : FnD fs cs prog "lock_number" false 2 DF_lock_number F_lock_number N_lock_number ["world", "lock"] :=
  ⟨by kernel_rfl, by decide +kernel, rfl, rfl, rfl, rfl, ⟨rfl, rfl, rfl, by decide +kernel, rfl, by decide +kernel, by decide +kernel⟩, fun _ _ _ _ _ _ us hl => match us, hl with | [_, _], _ => rfl, by decide +kernel⟩
theorem fdF_lamp_number : FnD fs cs prog "lamp_number" false 2 DF_lamp_number F_lamp_number N_lamp_number ["world", "thing"] :=
  ⟨by kernel_rfl, by decide +kernel, rfl, rfl, rfl, rfl, ⟨rfl, rfl, rfl, by decide +kernel, rfl, by decide +kernel, by decide +kernel⟩, fun _ _ _ _ _ _ us hl => match us, hl with | [_, _], _ => rfl, by decide +kernel⟩
theorem fdF_holds : FnD fs cs prog "holds" false 3 DF_holds F_holds N_holds ["world", "state", "condition"] :=
  ⟨by kernel_rfl, by decide +kernel, rfl, rfl, rfl, rfl, ⟨rfl, rfl, rfl, by decide +kernel, rfl, by decide +kernel, by decide +kernel⟩, fun _ _ _ _ _ _ us hl => match us, hl with | [_, _, _], _ => rfl, by decide +kernel⟩
theorem fdF_single : FnD fs cs prog "single" false 3 DF_single F_single N_single ["world", "state", "condition"] :=
  ⟨by kernel_rfl, by decide +kernel, rfl, rfl, rfl, rfl, ⟨rfl, rfl, rfl, by decide +kernel, rfl, by decide +kernel, by decide +kernel⟩, fun _ _ _ _ _ _ us hl => match us, hl with | [_, _, _], _ => rfl, by decide +kernel⟩
theorem fdF_is_whole : FnD fs cs prog "is_whole" false 3 DF_is_whole F_is_whole N_is_whole ["value", "low", "high"] :=
  ⟨by kernel_rfl, by decide +kernel, rfl, rfl, rfl, rfl, ⟨rfl, rfl, rfl, by decide +kernel, rfl, by decide +kernel, by decide +kernel⟩, fun _ _ _ _ _ _ us hl => match us, hl with | [_, _, _], _ => rfl, by decide +kernel⟩
theorem fdF_is_one_of : FnD fs cs prog "is_one_of" false 2 DF_is_one_of F_is_one_of N_is_one_of ["value", "row"] :=
  ⟨by kernel_rfl, by decide +kernel, rfl, rfl, rfl, rfl, ⟨rfl, rfl, rfl, by decide +kernel, rfl, by decide +kernel, by decide +kernel⟩, fun _ _ _ _ _ _ us hl => match us, hl with | [_, _], _ => rfl, by decide +kernel⟩
theorem fdF_is_place : FnD fs cs prog "is_place" false 2 DF_is_place F_is_place N_is_place ["world", "value"] :=
  ⟨by kernel_rfl, by decide +kernel, rfl, rfl, rfl, rfl, ⟨rfl, rfl, rfl, by decide +kernel, rfl, by decide +kernel, by decide +kernel⟩, fun _ _ _ _ _ _ us hl => match us, hl with | [_, _], _ => rfl, by decide +kernel⟩
theorem fdF_may_be : FnD fs cs prog "may_be" false 3 DF_may_be F_may_be N_may_be ["world", "thing", "place"] :=
  ⟨by kernel_rfl, by decide +kernel, rfl, rfl, rfl, rfl, ⟨rfl, rfl, rfl, by decide +kernel, rfl, by decide +kernel, by decide +kernel⟩, fun _ _ _ _ _ _ us hl => match us, hl with | [_, _, _], _ => rfl, by decide +kernel⟩
theorem fdF_boxes : FnD fs cs prog "boxes" false 1 DF_boxes F_boxes N_boxes ["world"] :=
  ⟨by kernel_rfl, by decide +kernel, rfl, rfl, rfl, rfl, ⟨rfl, rfl, rfl, by decide +kernel, rfl, by decide +kernel, by decide +kernel⟩, fun _ _ _ _ _ _ us hl => match us, hl with | [_], _ => rfl, by decide +kernel⟩
theorem fdF_lamps : FnD fs cs prog "lamps" false 1 DF_lamps F_lamps N_lamps ["world"] :=
  ⟨by kernel_rfl, by decide +kernel, rfl, rfl, rfl, rfl, ⟨rfl, rfl, rfl, by decide +kernel, rfl, by decide +kernel, by decide +kernel⟩, fun _ _ _ _ _ _ us hl => match us, hl with | [_], _ => rfl, by decide +kernel⟩
theorem fdF_locks : FnD fs cs prog "locks" false 1 DF_locks F_locks N_locks ["world"] :=
  ⟨by kernel_rfl, by decide +kernel, rfl, rfl, rfl, rfl, ⟨rfl, rfl, rfl, by decide +kernel, rfl, by decide +kernel, by decide +kernel⟩, fun _ _ _ _ _ _ us hl => match us, hl with | [_], _ => rfl, by decide +kernel⟩
theorem fdF_start : FnD fs cs prog "start" false 1 DF_start F_start N_start ["world"] :=
  ⟨by kernel_rfl, by decide +kernel, rfl, rfl, rfl, rfl, ⟨rfl, rfl, rfl, by decide +kernel, rfl, by decide +kernel, by decide +kernel⟩, fun _ _ _ _ _ _ us hl => match us, hl with | [_], _ => rfl, by decide +kernel⟩
theorem fdF_is_state : FnD fs cs prog "is_state" false 2 DF_is_state F_is_state N_is_state ["world", "value"] :=
  ⟨by kernel_rfl, by decide +kernel, rfl, rfl, rfl, rfl, ⟨rfl, rfl, rfl, by decide +kernel, rfl, by decide +kernel, by decide +kernel⟩, fun _ _ _ _ _ _ us hl => match us, hl with | [_, _], _ => rfl, by decide +kernel⟩
theorem fdF_sizes : FnD fs cs prog "sizes" false 1 DF_sizes F_sizes N_sizes ["world"] :=
  ⟨by kernel_rfl, by decide +kernel, rfl, rfl, rfl, rfl, ⟨rfl, rfl, rfl, by decide +kernel, rfl, by decide +kernel, by decide +kernel⟩, fun _ _ _ _ _ _ us hl => match us, hl with | [_], _ => rfl, by decide +kernel⟩
theorem fdF_is_won : FnD fs cs prog "is_won" false 2 DF_is_won F_is_won N_is_won ["world", "state"] :=
  ⟨by kernel_rfl, by decide +kernel, rfl, rfl, rfl, rfl, ⟨rfl, rfl, rfl, by decide +kernel, rfl, by decide +kernel, by decide +kernel⟩, fun _ _ _ _ _ _ us hl => match us, hl with | [_, _], _ => rfl, by decide +kernel⟩
theorem fdF_is_lost : FnD fs cs prog "is_lost" false 2 DF_is_lost F_is_lost N_is_lost ["world", "state"] :=
  ⟨by kernel_rfl, by decide +kernel, rfl, rfl, rfl, rfl, ⟨rfl, rfl, rfl, by decide +kernel, rfl, by decide +kernel, by decide +kernel⟩, fun _ _ _ _ _ _ us hl => match us, hl with | [_, _], _ => rfl, by decide +kernel⟩
theorem fdF_is_over : FnD fs cs prog "is_over" false 2 DF_is_over F_is_over N_is_over ["world", "state"] :=
  ⟨by kernel_rfl, by decide +kernel, rfl, rfl, rfl, rfl, ⟨rfl, rfl, rfl, by decide +kernel, rfl, by decide +kernel, by decide +kernel⟩, fun _ _ _ _ _ _ us hl => match us, hl with | [_, _], _ => rfl, by decide +kernel⟩
theorem fdF_room_of : FnD fs cs prog "room_of" false 3 DF_room_of F_room_of N_room_of ["world", "state", "thing"] :=
  ⟨by kernel_rfl, by decide +kernel, rfl, rfl, rfl, rfl, ⟨rfl, rfl, rfl, by decide +kernel, rfl, by decide +kernel, by decide +kernel⟩, fun _ _ _ _ _ _ us hl => match us, hl with | [_, _, _], _ => rfl, by decide +kernel⟩
theorem fdF_is_shut_in : FnD fs cs prog "is_shut_in" false 3 DF_is_shut_in F_is_shut_in N_is_shut_in ["world", "state", "thing"] :=
  ⟨by kernel_rfl, by decide +kernel, rfl, rfl, rfl, rfl, ⟨rfl, rfl, rfl, by decide +kernel, rfl, by decide +kernel, by decide +kernel⟩, fun _ _ _ _ _ _ us hl => match us, hl with | [_, _, _], _ => rfl, by decide +kernel⟩
theorem fdF_is_bright : FnD fs cs prog "is_bright" false 2 DF_is_bright F_is_bright N_is_bright ["world", "state"] :=
  ⟨by kernel_rfl, by decide +kernel, rfl, rfl, rfl, rfl, ⟨rfl, rfl, rfl, by decide +kernel, rfl, by decide +kernel, by decide +kernel⟩, fun _ _ _ _ _ _ us hl => match us, hl with | [_, _], _ => rfl, by decide +kernel⟩
theorem fdF_is_seen : FnD fs cs prog "is_seen" false 3 DF_is_seen F_is_seen N_is_seen ["world", "state", "thing"] :=
  ⟨by kernel_rfl, by decide +kernel, rfl, rfl, rfl, rfl, ⟨rfl, rfl, rfl, by decide +kernel, rfl, by decide +kernel, by decide +kernel⟩, fun _ _ _ _ _ _ us hl => match us, hl with | [_, _, _], _ => rfl, by decide +kernel⟩
theorem fdF_is_lock_seen : FnD fs cs prog "is_lock_seen" false 3 DF_is_lock_seen F_is_lock_seen N_is_lock_seen ["world", "state", "lock"] :=
  ⟨by kernel_rfl, by decide +kernel, rfl, rfl, rfl, rfl, ⟨rfl, rfl, rfl, by decide +kernel, rfl, by decide +kernel, by decide +kernel⟩, fun _ _ _ _ _ _ us hl => match us, hl with | [_, _, _], _ => rfl, by decide +kernel⟩
theorem fdF_seen : FnD fs cs prog "seen" false 2 DF_seen F_seen N_seen ["world", "state"] :=
  ⟨by kernel_rfl, by decide +kernel, rfl, rfl, rfl, rfl, ⟨rfl, rfl, rfl, by decide +kernel, rfl, by decide +kernel, by decide +kernel⟩, fun _ _ _ _ _ _ us hl => match us, hl with | [_, _], _ => rfl, by decide +kernel⟩
theorem fdF_held : FnD fs cs prog "held" false 2 DF_held F_held N_held ["world", "state"] :=
  ⟨by kernel_rfl, by decide +kernel, rfl, rfl, rfl, rfl, ⟨rfl, rfl, rfl, by decide +kernel, rfl, by decide +kernel, by decide +kernel⟩, fun _ _ _ _ _ _ us hl => match us, hl with | [_, _], _ => rfl, by decide +kernel⟩
theorem fdF_inside : FnD fs cs prog "inside" false 3 DF_inside F_inside N_inside ["world", "state", "box"] :=
  ⟨by kernel_rfl, by decide +kernel, rfl, rfl, rfl, rfl, ⟨rfl, rfl, rfl, by decide +kernel, rfl, by decide +kernel, by decide +kernel⟩, fun _ _ _ _ _ _ us hl => match us, hl with | [_, _, _], _ => rfl, by decide +kernel⟩
theorem fdF_lying : FnD fs cs prog "lying" false 3 DF_lying F_lying N_lying ["world", "state", "room"] :=
  ⟨by kernel_rfl, by decide +kernel, rfl, rfl, rfl, rfl, ⟨rfl, rfl, rfl, by decide +kernel, rfl, by decide +kernel, by decide +kernel⟩, fun _ _ _ _ _ _ us hl => match us, hl with | [_, _, _], _ => rfl, by decide +kernel⟩
theorem fdF_lock_state : FnD fs cs prog "lock_state" false 3 DF_lock_state F_lock_state N_lock_state ["world", "state", "lock"] :=
  ⟨by kernel_rfl, by decide +kernel, rfl, rfl, rfl, rfl, ⟨rfl, rfl, rfl, by decide +kernel, rfl, by decide +kernel, by decide +kernel⟩, fun _ _ _ _ _ _ us hl => match us, hl with | [_, _, _], _ => rfl, by decide +kernel⟩
theorem fdF_with_part : FnD fs cs prog "with_part" false 4 DF_with_part F_with_part N_with_part ["state", "part", "number", "value"] :=
  ⟨by kernel_rfl, by decide +kernel, rfl, rfl, rfl, rfl, ⟨rfl, rfl, rfl, by decide +kernel, rfl, by decide +kernel, by decide +kernel⟩, fun _ _ _ _ _ _ us hl => match us, hl with | [_, _, _, _], _ => rfl, by decide +kernel⟩
theorem fdF_differences : FnD fs cs prog "differences" false 2 DF_differences F_differences N_differences ["one", "other"] :=
  ⟨by kernel_rfl, by decide +kernel, rfl, rfl, rfl, rfl, ⟨rfl, rfl, rfl, by decide +kernel, rfl, by decide +kernel, by decide +kernel⟩, fun _ _ _ _ _ _ us hl => match us, hl with | [_, _], _ => rfl, by decide +kernel⟩
theorem bnF_law_state : ∀ (kV doc pm : Value) (an : Option Addr) (cdv ct : Value) (us : List Value), us.length = (["script"] : List Str).length → bindArgs (PySem.W.fnOf DF_law_state.name DF_law_state.qual DF_law_state.params DF_law_state.body DF_law_state.scope .none kV doc pm an cdv ct) ⟨us, []⟩ = pure ((["script"] : List Str).zip us) :=
  fun _ _ _ _ _ _ us hl => match us, hl with | [_], _ => rfl
theorem bnF_law_take : ∀ (kV doc pm : Value) (an : Option Addr) (cdv ct : Value) (us : List Value), us.length = (["state", "most"] : List Str).length → bindArgs (PySem.W.fnOf DF_law_take.name DF_law_take.qual DF_law_take.params DF_law_take.body DF_law_take.scope .none kV doc pm an cdv ct) ⟨us, []⟩ = pure ((["state", "most"] : List Str).zip us) :=
  fun _ _ _ _ _ _ us hl => match us, hl with | [_, _], _ => rfl
theorem fdF_law_pick : FnD fs cs prog "_law_pick" true 2 DF_law_pick F_law_pick N_law_pick ["state", "row"] :=
  ⟨by kernel_rfl, by decide +kernel, rfl, rfl, rfl, rfl, ⟨rfl, rfl, rfl, by decide +kernel, rfl, by decide +kernel, by decide +kernel⟩, fun _ _ _ _ _ _ us hl => match us, hl with | [_, _], _ => rfl, by decide +kernel⟩
theorem fdF_law_some : FnD fs cs prog "_law_some" true 3 DF_law_some F_law_some N_law_some ["state", "row", "many"] :=
  ⟨by kernel_rfl, by decide +kernel, rfl, rfl, rfl, rfl, ⟨rfl, rfl, rfl, by decide +kernel, rfl, by decide +kernel, by decide +kernel⟩, fun _ _ _ _ _ _ us hl => match us, hl with | [_, _, _], _ => rfl, by decide +kernel⟩
theorem fdF_law_back : FnD fs cs prog "_law_back" false 1 DF_law_back F_law_back N_law_back ["told"] :=
  ⟨by kernel_rfl, by decide +kernel, rfl, rfl, rfl, rfl, ⟨rfl, rfl, rfl, by decide +kernel, rfl, by decide +kernel, by decide +kernel⟩, fun _ _ _ _ _ _ us hl => match us, hl with | [_], _ => rfl, by decide +kernel⟩
theorem fdF_law_ways : FnD fs cs prog "_law_ways" true 2 DF_law_ways F_law_ways N_law_ways ["state", "many"] :=
  ⟨by kernel_rfl, by decide +kernel, rfl, rfl, rfl, rfl, ⟨rfl, rfl, rfl, by decide +kernel, rfl, by decide +kernel, by decide +kernel⟩, fun _ _ _ _ _ _ us hl => match us, hl with | [_, _], _ => rfl, by decide +kernel⟩
theorem fdF_law_things : FnD fs cs prog "_law_things" true 3 DF_law_things F_law_things N_law_things ["state", "rooms", "many"] :=
  ⟨by kernel_rfl, by decide +kernel, rfl, rfl, rfl, rfl, ⟨rfl, rfl, rfl, by decide +kernel, rfl, by decide +kernel, by decide +kernel⟩, fun _ _ _ _ _ _ us hl => match us, hl with | [_, _, _], _ => rfl, by decide +kernel⟩
theorem fdF_law_single : FnD fs cs prog "_law_single" true 2 DF_law_single F_law_single N_law_single ["state", "world"] :=
  ⟨by kernel_rfl, by decide +kernel, rfl, rfl, rfl, rfl, ⟨rfl, rfl, rfl, by decide +kernel, rfl, by decide +kernel, by decide +kernel⟩, fun _ _ _ _ _ _ us hl => match us, hl with | [_, _], _ => rfl, by decide +kernel⟩
theorem fdF_law_condition : FnD fs cs prog "_law_condition" true 3 DF_law_condition F_law_condition N_law_condition ["state", "world", "level"] :=
  ⟨by kernel_rfl, by decide +kernel, rfl, rfl, rfl, rfl, ⟨rfl, rfl, rfl, by decide +kernel, rfl, by decide +kernel, by decide +kernel⟩, fun _ _ _ _ _ _ us hl => match us, hl with | [_, _, _], _ => rfl, by decide +kernel⟩
theorem fdF_law_effects : FnD fs cs prog "_law_effects" true 2 DF_law_effects F_law_effects N_law_effects ["state", "world"] :=
  ⟨by kernel_rfl, by decide +kernel, rfl, rfl, rfl, rfl, ⟨rfl, rfl, rfl, by decide +kernel, rfl, by decide +kernel, by decide +kernel⟩, fun _ _ _ _ _ _ us hl => match us, hl with | [_, _], _ => rfl, by decide +kernel⟩
theorem fdF_law_world : FnD fs cs prog "_law_world" true 3 DF_law_world F_law_world N_law_world ["state", "many", "wide"] :=
  ⟨by kernel_rfl, by decide +kernel, rfl, rfl, rfl, rfl, ⟨rfl, rfl, rfl, by decide +kernel, rfl, by decide +kernel, by decide +kernel⟩, fun _ _ _ _ _ _ us hl => match us, hl with | [_, _, _], _ => rfl, by decide +kernel⟩
theorem fdF_law_lock : FnD fs cs prog "_law_lock" false 2 DF_law_lock F_law_lock N_law_lock ["world", "lock"] :=
  ⟨by kernel_rfl, by decide +kernel, rfl, rfl, rfl, rfl, ⟨rfl, rfl, rfl, by decide +kernel, rfl, by decide +kernel, by decide +kernel⟩, fun _ _ _ _ _ _ us hl => match us, hl with | [_, _], _ => rfl, by decide +kernel⟩
theorem fdF_law_lamp : FnD fs cs prog "_law_lamp" false 2 DF_law_lamp F_law_lamp N_law_lamp ["world", "thing"] :=
  ⟨by kernel_rfl, by decide +kernel, rfl, rfl, rfl, rfl, ⟨rfl, rfl, rfl, by decide +kernel, rfl, by decide +kernel, by decide +kernel⟩, fun _ _ _ _ _ _ us hl => match us, hl with | [_, _], _ => rfl, by decide +kernel⟩
theorem fdF_law_start : FnD fs cs prog "_law_start" false 1 DF_law_start F_law_start N_law_start ["world"] :=
  ⟨by kernel_rfl, by decide +kernel, rfl, rfl, rfl, rfl, ⟨rfl, rfl, rfl, by decide +kernel, rfl, by decide +kernel, by decide +kernel⟩, fun _ _ _ _ _ _ us hl => match us, hl with | [_], _ => rfl, by decide +kernel⟩
theorem fdF_law_holds : FnD fs cs prog "_law_holds" false 3 DF_law_holds F_law_holds N_law_holds ["world", "now", "condition"] :=
  ⟨by kernel_rfl, by decide +kernel, rfl, rfl, rfl, rfl, ⟨rfl, rfl, rfl, by decide +kernel, rfl, by decide +kernel, by decide +kernel⟩, fun _ _ _ _ _ _ us hl => match us, hl with | [_, _, _], _ => rfl, by decide +kernel⟩
theorem fdF_law_exits : FnD fs cs prog "_law_exits" false 2 DF_law_exits F_law_exits N_law_exits ["world", "room"] :=
  ⟨by kernel_rfl, by decide +kernel, rfl, rfl, rfl, rfl, ⟨rfl, rfl, rfl, by decide +kernel, rfl, by decide +kernel, by decide +kernel⟩, fun _ _ _ _ _ _ us hl => match us, hl with | [_, _], _ => rfl, by decide +kernel⟩
theorem fdF_law_near : FnD fs cs prog "_law_near" false 3 DF_law_near F_law_near N_law_near ["world", "now", "thing"] :=
  ⟨by kernel_rfl, by decide +kernel, rfl, rfl, rfl, rfl, ⟨rfl, rfl, rfl, by decide +kernel, rfl, by decide +kernel, by decide +kernel⟩, fun _ _ _ _ _ _ us hl => match us, hl with | [_, _, _], _ => rfl, by decide +kernel⟩
theorem fdF_law_bright : FnD fs cs prog "_law_bright" false 2 DF_law_bright F_law_bright N_law_bright ["world", "now"] :=
  ⟨by kernel_rfl, by decide +kernel, rfl, rfl, rfl, rfl, ⟨rfl, rfl, rfl, by decide +kernel, rfl, by decide +kernel, by decide +kernel⟩, fun _ _ _ _ _ _ us hl => match us, hl with | [_, _], _ => rfl, by decide +kernel⟩
theorem fdF_law_sees : FnD fs cs prog "_law_sees" false 3 DF_law_sees F_law_sees N_law_sees ["world", "now", "one"] :=
  ⟨by kernel_rfl, by decide +kernel, rfl, rfl, rfl, rfl, ⟨rfl, rfl, rfl, by decide +kernel, rfl, by decide +kernel, by decide +kernel⟩, fun _ _ _ _ _ _ us hl => match us, hl with | [_, _, _], _ => rfl, by decide +kernel⟩
theorem fdF_law_end : FnD fs cs prog "_law_end" false 2 DF_law_end F_law_end N_law_end ["world", "now"] :=
  ⟨by kernel_rfl, by decide +kernel, rfl, rfl, rfl, rfl, ⟨rfl, rfl, rfl, by decide +kernel, rfl, by decide +kernel, by decide +kernel⟩, fun _ _ _ _ _ _ us hl => match us, hl with | [_, _], _ => rfl, by decide +kernel⟩
theorem fdF_law_refused : FnD fs cs prog "_law_refused" false 3 DF_law_refused F_law_refused N_law_refused ["world", "now", "deed"] :=
  ⟨by kernel_rfl, by decide +kernel, rfl, rfl, rfl, rfl, ⟨rfl, rfl, rfl, by decide +kernel, rfl, by decide +kernel, by decide +kernel⟩, fun _ _ _ _ _ _ us hl => match us, hl with | [_, _, _], _ => rfl, by decide +kernel⟩
theorem fdF_law_refused_more : FnD fs cs prog "_law_refused_more" false 3 DF_law_refused_more F_law_refused_more N_law_refused_more ["world", "now", "deed"] :=
  ⟨by kernel_rfl, by decide +kernel, rfl, rfl, rfl, rfl, ⟨rfl, rfl, rfl, by decide +kernel, rfl, by decide +kernel, by decide +kernel⟩, fun _ _ _ _ _ _ us hl => match us, hl with | [_, _, _], _ => rfl, by decide +kernel⟩
theorem fdF_law_put : FnD fs cs prog "_law_put" false 3 DF_law_put F_law_put N_law_put ["row", "spot", "value"] :=
  ⟨by kernel_rfl, by decide +kernel, rfl, rfl, rfl, rfl, ⟨rfl, rfl, rfl, by decide +kernel, rfl, by decide +kernel, by decide +kernel⟩, fun _ _ _ _ _ _ us hl => match us, hl with | [_, _, _], _ => rfl, by decide +kernel⟩
theorem fdF_law_effect : FnD fs cs prog "_law_effect" false 3 DF_law_effect F_law_effect N_law_effect ["world", "now", "one"] :=
  ⟨by kernel_rfl, by decide +kernel, rfl, rfl, rfl, rfl, ⟨rfl, rfl, rfl, by decide +kernel, rfl, by decide +kernel, by decide +kernel⟩, fun _ _ _ _ _ _ us hl => match us, hl with | [_, _, _], _ => rfl, by decide +kernel⟩
theorem fdF_law_done : FnD fs cs prog "_law_done" false 3 DF_law_done F_law_done N_law_done ["world", "now", "deed"] :=
  ⟨by kernel_rfl, by decide +kernel, rfl, rfl, rfl, rfl, ⟨rfl, rfl, rfl, by decide +kernel, rfl, by decide +kernel, by decide +kernel⟩, fun _ _ _ _ _ _ us hl => match us, hl with | [_, _, _], _ => rfl, by decide +kernel⟩
theorem fdF_law_all : FnD fs cs prog "_law_all" false 1 DF_law_all F_law_all N_law_all ["world"] :=
  ⟨by kernel_rfl, by decide +kernel, rfl, rfl, rfl, rfl, ⟨rfl, rfl, rfl, by decide +kernel, rfl, by decide +kernel, by decide +kernel⟩, fun _ _ _ _ _ _ us hl => match us, hl with | [_], _ => rfl, by decide +kernel⟩
theorem fdF_law_met : FnD fs cs prog "_law_met" true 2 DF_law_met F_law_met N_law_met ["state", "world"] :=
  ⟨by kernel_rfl, by decide +kernel, rfl, rfl, rfl, rfl, ⟨rfl, rfl, rfl, by decide +kernel, rfl, by decide +kernel, by decide +kernel⟩, fun _ _ _ _ _ _ us hl => match us, hl with | [_, _], _ => rfl, by decide +kernel⟩
theorem fdF_law_sight : FnD fs cs prog "_law_sight" false 2 DF_law_sight F_law_sight N_law_sight ["world", "now"] :=
  ⟨by kernel_rfl, by decide +kernel, rfl, rfl, rfl, rfl, ⟨rfl, rfl, rfl, by decide +kernel, rfl, by decide +kernel, by decide +kernel⟩, fun _ _ _ _ _ _ us hl => match us, hl with | [_, _], _ => rfl, by decide +kernel⟩
theorem fdF_law_parts : FnD fs cs prog "_law_parts" false 3 DF_law_parts F_law_parts N_law_parts ["world", "now", "other"] :=
  ⟨by kernel_rfl, by decide +kernel, rfl, rfl, rfl, rfl, ⟨rfl, rfl, rfl, by decide +kernel, rfl, by decide +kernel, by decide +kernel⟩, fun _ _ _ _ _ _ us hl => match us, hl with | [_, _, _], _ => rfl, by decide +kernel⟩
theorem fdF_law_bent : FnD fs cs prog "_law_bent" false 2 DF_law_bent F_law_bent N_law_bent ["world", "now"] :=
  ⟨by kernel_rfl, by decide +kernel, rfl, rfl, rfl, rfl, ⟨rfl, rfl, rfl, by decide +kernel, rfl, by decide +kernel, by decide +kernel⟩, fun _ _ _ _ _ _ us hl => match us, hl with | [_, _], _ => rfl, by decide +kernel⟩
theorem sc_law : FnScope N_law ["script"] (defScope (top 65)) := ⟨rfl, rfl, rfl, by decide +kernel, rfl, by decide +kernel, by decide +kernel⟩
theorem bn_law : ∀ (kV doc pm : Value) (an : Option Addr) (cdv ct : Value) (us : List Value), us.length = (["script"] : List Str).length → bindArgs (PySem.W.fnOf DF_law.name DF_law.qual DF_law.params DF_law.body DF_law.scope .none kV doc pm an cdv ct) ⟨us, []⟩ = pure ((["script"] : List Str).zip us) :=
  fun _ _ _ _ _ _ us hl => match us, hl with | [_], _ => rfl
theorem ck_law : ckS ⟨N_law, fs, cs⟩ (defScope (top 65)) F_law.body (.many ((defBody (top 65)).drop 1)) = true := by decide +kernel
end K04
set_option Elab.async false
set_option maxRecDepth 100000
set_option maxHeartbeats 0
set_option linter.all false
namespace K04
open Pu PySem PySem.Spec PyProof.Rows L2

def tab : List Ent :=
  ([⟨"lock_number", false, 2, DF_lock_number, F_lock_number, N_lock_number, ["world", "lock"]⟩,
   ⟨"lamp_number", false, 2, DF_lamp_number, F_lamp_number, N_lamp_number, ["world", "thing"]⟩,
   ⟨"holds", false, 3, DF_holds, F_holds, N_holds, ["world", "state", "condition"]⟩,
   ⟨"single", false, 3, DF_single, F_single, N_single, ["world", "state", "condition"]⟩,
   ⟨"is_whole", false, 3, DF_is_whole, F_is_whole, N_is_whole, ["value", "low", "high"]⟩,
   ⟨"is_one_of", false, 2, DF_is_one_of, F_is_one_of, N_is_one_of, ["value", "row"]⟩,
   ⟨"is_place", false, 2, DF_is_place, F_is_place, N_is_place, ["world", "value"]⟩,
   ⟨"may_be", false, 3, DF_may_be, F_may_be, N_may_be, ["world", "thing", "place"]⟩,
   ⟨"boxes", false, 1, DF_boxes, F_boxes, N_boxes, ["world"]⟩,
   ⟨"lamps", false, 1, DF_lamps, F_lamps, N_lamps, ["world"]⟩,
   ⟨"locks", false, 1, DF_locks, F_locks, N_locks, ["world"]⟩,
   ⟨"start", false, 1, DF_start, F_start, N_start, ["world"]⟩,
   ⟨"is_state", false, 2, DF_is_state, F_is_state, N_is_state, ["world", "value"]⟩,
   ⟨"sizes", false, 1, DF_sizes, F_sizes, N_sizes, ["world"]⟩,
   ⟨"is_won", false, 2, DF_is_won, F_is_won, N_is_won, ["world", "state"]⟩,
   ⟨"is_lost", false, 2, DF_is_lost, F_is_lost, N_is_lost, ["world", "state"]⟩,
   ⟨"is_over", false, 2, DF_is_over, F_is_over, N_is_over, ["world", "state"]⟩,
   ⟨"room_of", false, 3, DF_room_of, F_room_of, N_room_of, ["world", "state", "thing"]⟩,
   ⟨"is_shut_in", false, 3, DF_is_shut_in, F_is_shut_in, N_is_shut_in, ["world", "state", "thing"]⟩,
   ⟨"is_bright", false, 2, DF_is_bright, F_is_bright, N_is_bright, ["world", "state"]⟩,
   ⟨"is_seen", false, 3, DF_is_seen, F_is_seen, N_is_seen, ["world", "state", "thing"]⟩,
   ⟨"is_lock_seen", false, 3, DF_is_lock_seen, F_is_lock_seen, N_is_lock_seen, ["world", "state", "lock"]⟩,
   ⟨"seen", false, 2, DF_seen, F_seen, N_seen, ["world", "state"]⟩,
   ⟨"held", false, 2, DF_held, F_held, N_held, ["world", "state"]⟩,
   ⟨"inside", false, 3, DF_inside, F_inside, N_inside, ["world", "state", "box"]⟩,
   ⟨"lying", false, 3, DF_lying, F_lying, N_lying, ["world", "state", "room"]⟩,
   ⟨"lock_state", false, 3, DF_lock_state, F_lock_state, N_lock_state, ["world", "state", "lock"]⟩,
   ⟨"with_part", false, 4, DF_with_part, F_with_part, N_with_part, ["state", "part", "number", "value"]⟩,
   ⟨"differences", false, 2, DF_differences, F_differences, N_differences, ["one", "other"]⟩,
   ⟨"_law_pick", true, 2, DF_law_pick, F_law_pick, N_law_pick, ["state", "row"]⟩] : List Ent) ++ ([⟨"_law_some", true, 3, DF_law_some, F_law_some, N_law_some, ["state", "row", "many"]⟩,
   ⟨"_law_back", false, 1, DF_law_back, F_law_back, N_law_back, ["told"]⟩,
   ⟨"_law_ways", true, 2, DF_law_ways, F_law_ways, N_law_ways, ["state", "many"]⟩,
   ⟨"_law_things", true, 3, DF_law_things, F_law_things, N_law_things, ["state", "rooms", "many"]⟩,
   ⟨"_law_single", true, 2, DF_law_single, F_law_single, N_law_single, ["state", "world"]⟩,
   ⟨"_law_condition", true, 3, DF_law_condition, F_law_condition, N_law_condition, ["state", "world", "level"]⟩,
   ⟨"_law_effects", true, 2, DF_law_effects, F_law_effects, N_law_effects, ["state", "world"]⟩,
   ⟨"_law_world", true, 3, DF_law_world, F_law_world, N_law_world, ["state", "many", "wide"]⟩,
   ⟨"_law_lock", false, 2, DF_law_lock, F_law_lock, N_law_lock, ["world", "lock"]⟩,
   ⟨"_law_lamp", false, 2, DF_law_lamp, F_law_lamp, N_law_lamp, ["world", "thing"]⟩,
   ⟨"_law_start", false, 1, DF_law_start, F_law_start, N_law_start, ["world"]⟩,
   ⟨"_law_holds", false, 3, DF_law_holds, F_law_holds, N_law_holds, ["world", "now", "condition"]⟩,
   ⟨"_law_exits", false, 2, DF_law_exits, F_law_exits, N_law_exits, ["world", "room"]⟩,
   ⟨"_law_near", false, 3, DF_law_near, F_law_near, N_law_near, ["world", "now", "thing"]⟩,
   ⟨"_law_bright", false, 2, DF_law_bright, F_law_bright, N_law_bright, ["world", "now"]⟩,
   ⟨"_law_sees", false, 3, DF_law_sees, F_law_sees, N_law_sees, ["world", "now", "one"]⟩,
   ⟨"_law_end", false, 2, DF_law_end, F_law_end, N_law_end, ["world", "now"]⟩,
   ⟨"_law_refused", false, 3, DF_law_refused, F_law_refused, N_law_refused, ["world", "now", "deed"]⟩,
   ⟨"_law_refused_more", false, 3, DF_law_refused_more, F_law_refused_more, N_law_refused_more, ["world", "now", "deed"]⟩,
   ⟨"_law_put", false, 3, DF_law_put, F_law_put, N_law_put, ["row", "spot", "value"]⟩,
   ⟨"_law_effect", false, 3, DF_law_effect, F_law_effect, N_law_effect, ["world", "now", "one"]⟩,
   ⟨"_law_done", false, 3, DF_law_done, F_law_done, N_law_done, ["world", "now", "deed"]⟩,
   ⟨"_law_all", false, 1, DF_law_all, F_law_all, N_law_all, ["world"]⟩,
   ⟨"_law_met", true, 2, DF_law_met, F_law_met, N_law_met, ["state", "world"]⟩,
   ⟨"_law_sight", false, 2, DF_law_sight, F_law_sight, N_law_sight, ["world", "now"]⟩,
   ⟨"_law_parts", false, 3, DF_law_parts, F_law_parts, N_law_parts, ["world", "now", "other"]⟩,
   ⟨"_law_bent", false, 2, DF_law_bent, F_law_bent, N_law_bent, ["world", "now"]⟩] : List Ent)
theorem tabs : ∀ e ∈ tab, FnD fs cs prog e.f e.gen e.n e.d e.F e.N e.ps := by
  have h : ∀ (l : List Ent), (∀ e ∈ l, FnD fs cs prog e.f e.gen e.n e.d e.F e.N e.ps) → ∀ e0 : Ent, FnD fs cs prog e0.f e0.gen e0.n e0.d e0.F e0.N e0.ps → ∀ e ∈ e0 :: l, FnD fs cs prog e.f e.gen e.n e.d e.F e.N e.ps := fun l hl e0 h0 e he => by
    rcases List.mem_cons.mp he with rfl | he
    · exact h0
    · exact hl e he
  refine h _ ?_ _ fdF_lock_number
  refine h _ ?_ _ fdF_lamp_number
  refine h _ ?_ _ fdF_holds
  refine h _ ?_ _ fdF_single
  refine h _ ?_ _ fdF_is_whole
  refine h _ ?_ _ fdF_is_one_of
  refine h _ ?_ _ fdF_is_place
  refine h _ ?_ _ fdF_may_be
  refine h _ ?_ _ fdF_boxes
  refine h _ ?_ _ fdF_lamps
  refine h _ ?_ _ fdF_locks
  refine h _ ?_ _ fdF_start
  refine h _ ?_ _ fdF_is_state
  refine h _ ?_ _ fdF_sizes
  refine h _ ?_ _ fdF_is_won
  refine h _ ?_ _ fdF_is_lost
  refine h _ ?_ _ fdF_is_over
  refine h _ ?_ _ fdF_room_of
  refine h _ ?_ _ fdF_is_shut_in
  refine h _ ?_ _ fdF_is_bright
  refine h _ ?_ _ fdF_is_seen
  refine h _ ?_ _ fdF_is_lock_seen
  refine h _ ?_ _ fdF_seen
  refine h _ ?_ _ fdF_held
  refine h _ ?_ _ fdF_inside
  refine h _ ?_ _ fdF_lying
  refine h _ ?_ _ fdF_lock_state
  refine h _ ?_ _ fdF_with_part
  refine h _ ?_ _ fdF_differences
  refine h _ ?_ _ fdF_law_pick
  refine h _ ?_ _ fdF_law_some
  refine h _ ?_ _ fdF_law_back
  refine h _ ?_ _ fdF_law_ways
  refine h _ ?_ _ fdF_law_things
  refine h _ ?_ _ fdF_law_single
  refine h _ ?_ _ fdF_law_condition
  refine h _ ?_ _ fdF_law_effects
  refine h _ ?_ _ fdF_law_world
  refine h _ ?_ _ fdF_law_lock
  refine h _ ?_ _ fdF_law_lamp
  refine h _ ?_ _ fdF_law_start
  refine h _ ?_ _ fdF_law_holds
  refine h _ ?_ _ fdF_law_exits
  refine h _ ?_ _ fdF_law_near
  refine h _ ?_ _ fdF_law_bright
  refine h _ ?_ _ fdF_law_sees
  refine h _ ?_ _ fdF_law_end
  refine h _ ?_ _ fdF_law_refused
  refine h _ ?_ _ fdF_law_refused_more
  refine h _ ?_ _ fdF_law_put
  refine h _ ?_ _ fdF_law_effect
  refine h _ ?_ _ fdF_law_done
  refine h _ ?_ _ fdF_law_all
  refine h _ ?_ _ fdF_law_met
  refine h _ ?_ _ fdF_law_sight
  refine h _ ?_ _ fdF_law_parts
  refine h _ ?_ _ fdF_law_bent
  exact fun e he => nomatch he
def fns : List He.DefD := DF_law_take :: DF_law_state :: DF_law :: tab.map Ent.d
def glos : List Str := (["lock_number", "lamp_number", "holds", "single", "is_whole", "is_one_of", "is_place", "may_be", "boxes", "lamps", "locks", "start", "is_state", "sizes", "is_won", "is_lost", "is_over", "room_of", "is_shut_in", "is_bright", "is_seen", "is_lock_seen", "seen", "held", "inside", "lying", "lock_state", "with_part", "differences", "_law_state"] : List Str) ++ (["_law_take", "_law_pick", "_law_some", "_law_back", "_law_ways", "_law_things", "_law_single", "_law_condition", "_law_effects", "_law_world", "_law_lock", "_law_lamp", "_law_start", "_law_holds", "_law_exits", "_law_near", "_law_bright", "_law_sees", "_law_end", "_law_refused", "_law_refused_more", "_law_put", "_law_effect", "_law_done", "_law_all", "_law_met", "_law_sight", "_law_parts", "_law_bent", "law"] : List Str)
def cbs : List (Str × D) := [(("STATES" : Str), (.tuple [(.str "open"), (.str "closed"), (.str "locked")])), (("MOST_COUNT" : Str), (.int 99))]
def loose : List Str := (["lock_number", "lamp_number", "holds", "single", "is_whole", "is_one_of", "is_place", "may_be", "boxes", "lamps", "locks", "start", "is_state", "sizes", "is_won", "is_lost", "is_over", "room_of", "is_shut_in", "is_bright", "is_seen", "is_lock_seen", "seen", "held", "inside", "lying", "lock_state", "with_part", "differences", "_law_state"] : List Str) ++ (["_law_take", "_law_pick", "_law_some", "_law_back", "_law_ways", "_law_things", "_law_single", "_law_condition", "_law_effects", "_law_world", "_law_lock", "_law_lamp", "_law_start", "_law_holds", "_law_exits", "_law_near", "_law_bright", "_law_sees", "_law_end", "_law_refused", "_law_refused_more", "_law_put", "_law_effect", "_law_done", "_law_all", "_law_met", "_law_sight", "_law_parts", "_law_bent", "STATES"] : List Str) ++ (["MOST_COUNT", "__name__"] : List Str)
abbrev R : PySem.W.OpenRow := PySem.W.OpenLaw.row PySem.Challenge.rw_toldworlds_k04_whole_states_and_sight
abbrev hk : PySem.W.Hook := hookC 4 glos cbs fns
def ob (s : PySem.W.SharedT) : He.AlD := obsCG 4 glos cbs fns (HandSHeadRun.getT s)
theorem ob_eq (s : PySem.W.SharedT) : ob s = hk.obs s.abs := obsCG_eq (HandSHeadRun.getT_eq s)
theorem run (w : World) : HandSHeadRun.RunEq R (PySem.W.view R.prog [65]) hk ob 4000 loose w := by
  intro os
  kernel_rfl
end K04
set_option Elab.async false
set_option maxRecDepth 100000
set_option maxHeartbeats 0
set_option linter.all false
namespace K04
open Pu PySem PySem.Spec PyProof.Rows L2
theorem take_text : TakeBody DF_law_take.body := fun X T => take_pss T
theorem state_text : StateBody DF_law_state.body := fun X T => state_pss T rfl (fun s => by rfl) (by decide +kernel) (by decide +kernel) (by decide +kernel)
theorem sc_take : FnScope takeN ["state", "most"] DF_law_take.scope := ⟨rfl, rfl, rfl, by decide +kernel, rfl, by decide +kernel, by decide +kernel⟩
theorem sc_state : FnScope stateN ["script"] DF_law_state.scope := ⟨rfl, rfl, rfl, by decide +kernel, rfl, by decide +kernel, by decide +kernel⟩
/-- what is left to plain Lean -/
def Math : Prop := ∀ g : G, ∃ ρ' g', ex (cfOf prog cst 40) F_law.body (none :: some .gen :: List.replicate (N_law.length - 2) none) g = some (.rt (.sh (.bool true)), ρ', g')
theorem facts (hM : Math) {w : World} {K : PySem.W.Frag} {h : Heap} {mg : Str → Option Value} {fa : Addr} (X : K.In h) (G : h.Ns mainGlobals mg) (hfa : mg ("law" : Str) = some (.ref fa)) (c : obsC glos cbs fns K = He.valD fns) :
    ∃ fd : FuncData, (∀ (s : Shared) (v : Value), BindsTo s fd ⟨[v], []⟩ [("script", v)]) ∧ ∀ base : Heap, K.In base → base.Ns mainGlobals mg → FnOk (PySem.Challenge.rw_toldworlds_k04_whole_states_and_sight).prog w K mg base C8.CX0 41 fa fd ["script"] (spLaw K) := by
  obtain ⟨g1, g2, g3, g4⟩ := saysC c X G
  have m1 : DF_law_take ∈ fns := List.mem_cons_self
  have m2 : DF_law_state ∈ fns := List.mem_cons_of_mem _ List.mem_cons_self
  have m3 : DF_law ∈ fns := List.mem_cons_of_mem _ (List.mem_cons_of_mem _ List.mem_cons_self)
  obtain ⟨fdT, FT⟩ := g4 _ m1
  obtain ⟨fdS, FS⟩ := g4 _ m2
  obtain ⟨fdL, FL⟩ := g4 _ m3
  have e := hfa.symm.trans (g1 "law" (by decide +kernel))
  cases e
  have M : Mods K mg cs cst := ⟨fun x hx => by
    have z : ∀ x ∈ cs, ∃ p ∈ cbs, p.1 = x ∧ cst x = some (.sh p.2) := by
      intro x hx
      unfold cs at hx
      simp only [List.mem_cons, List.not_mem_nil, or_false] at hx
      rcases hx with rfl | rfl
      · exact ⟨_, (List.Mem.head _), rfl, by kernel_rfl⟩
      · exact ⟨_, (List.Mem.tail _ (List.Mem.head _)), rfl, by kernel_rfl⟩
    obtain ⟨p, hp, rfl, hc⟩ := z x hx
    obtain ⟨u, v, k1, k2, k3⟩ := g3 p hp
    exact ⟨u, v, p.2, k1, k2, k3, hc⟩, g2⟩
  have bL := FunD.bindsA (ps := ["script"]) FL bn_law
  refine ⟨fdL, fun s v => bL s [v] rfl, fun base _ _ => ?_⟩
  have all := all_at (P := (PySem.Challenge.rw_toldworlds_k04_whole_states_and_sight).prog) (w := w) (K := K) (mg := mg) (base := base) (tab := tab) (fs := fs) (cs := cs) (p := prog) (cst := cst) rfl tabs (fun e he => ?_) (fun k => ?_) M
  · exact law_at (N := N_law) (S := F_law.body) (k := 40) (d := DF_law) (ds := DF_law_state) rfl sc_law rfl rfl (by decide +kernel) (by decide +kernel) (by decide +kernel) (by decide +kernel) M (all 40) ck_law FL FS (g1 "_law_state" (by decide +kernel)) (state_at (k := 39) state_text sc_state (by decide +kernel) (by decide +kernel) (g2 _ (by decide +kernel)) (g2 _ (by decide +kernel)) FS) (FS.bindsN bnF_law_state) hM
  · obtain ⟨fd, F⟩ := g4 e.d (List.mem_cons_of_mem _ (List.mem_cons_of_mem _ (List.mem_cons_of_mem _ (List.mem_map_of_mem he))))
    have hd := (tabs e he).dfl
    have e2 : e.d.dvs K = [] := by
      unfold He.DefD.dvs
      rw [hd]
      rfl
    rw [e2] at F
    have hat : e.d.at_ = (e.f, none) := by simpa using List.all_eq_true.mp (show (tab.all fun e => decide (e.d.at_ = (e.f, none))) = true by decide +kernel) e he
    exact ⟨fd, F, by rw [hat]; exact g1 e.f (List.all_eq_true.mp (show (tab.all fun e => glos.contains e.f) = true by decide +kernel) e he |> fun z => by simpa using z)⟩
  · cases k with
    | zero => exact at_zero (d := DF_law_take) rfl bnF_law_take FT (g1 "_law_take" (by decide +kernel))
    | succ k => exact take_at take_text sc_take (by decide +kernel) (by decide +kernel) (by decide +kernel) (g2 _ (by decide +kernel)) (g2 _ (by decide +kernel)) bnF_law_take FT (g1 "_law_take" (by decide +kernel))
open PySem PySem.W PySem.Calls PyProof.Rows in
theorem holds_of (hM : Math) : PySem.Challenge.rw_toldworlds_k04_whole_states_and_sight.Holds := by
  w_on; o_law
  refine HandSHeadRun.head_any (r := OpenLaw.row PySem.Challenge.rw_toldworlds_k04_whole_states_and_sight) (q := view (OpenLaw.row PySem.Challenge.rw_toldworlds_k04_whole_states_and_sight).prog [65]) (H := hk) (ob := ob) (M := 4000) (loose := loose) (d := HandSHeadRun.topDef (OpenLaw.row PySem.Challenge.rw_toldworlds_k04_whole_states_and_sight).prog 65) (kwd := []) ob_eq
    (by kernel_rfl) (fun s => by kernel_rfl) run (by kernel_rfl) (by kernel_rfl) (by kernel_rfl) (by rfl) (by first | assumption | decide +kernel) (by decide +kernel) ⟨rfl, rfl, rfl, rfl, rfl, by decide +kernel⟩ ?hw ?hc
  case hw => w_witness2
  case hc =>
    refine L2.walk_ofE (l := PySem.Challenge.rw_toldworlds_k04_whole_states_and_sight) (n := 63) (k := 41) (x := "script") (CX := C8.CX0) rfl (by decide) (by kernel_rfl) ⟨rfl, by decide, by decide⟩ ?F (fun _ _ _ _ z => z)
    intro w mg fa h Y G hmg0
    obtain ⟨K, KX, c⟩ := Y
    have hmg : mg ("law" : PySem.Str) = some (.ref fa) := by
      have e : (HandSHeadRun.topDef (OpenLaw.row PySem.Challenge.rw_toldworlds_k04_whole_states_and_sight).prog 65).name = ("law" : PySem.Str) := by kernel_rfl
      rw [← e]
      exact hmg0
    obtain ⟨fd, hb, hF⟩ := facts hM (w := w) KX G hmg c
    exact ⟨K, fd, Pu.spLaw K, KX, hb, fun H a ns hl _ hS => ⟨a, ns, rfl, hS, fun _ => rfl⟩, hF⟩
end K04
set_option Elab.async false
set_option maxRecDepth 100000
set_option maxHeartbeats 4000000
set_option linter.all false
/-! M1: the drawn worlds, typed; how plain terms run. -/
namespace Pu.Tw
open PySem L2

inductive Place where
  | held
  | gone
  | room (k : Nat)
  | box (k : Nat)
  deriving DecidableEq
def Place.d : Place → D
  | .held => .tuple [.str "held"]
  | .gone => .tuple [.str "gone"]
  | .room k => .tuple [.str "room", .int k]
  | .box k => .tuple [.str "box", .int k]
inductive LS where
  | open_ | closed | locked
  deriving DecidableEq
def LS.s : LS → Str
  | .open_ => "open"
  | .closed => "closed"
  | .locked => "locked"
inductive Kind where
  | thing | lamp | fixed | box
  deriving DecidableEq
def Kind.s : Kind → Str
  | .thing => "thing"
  | .lamp => "lamp"
  | .fixed => "fixed"
  | .box => "box"
def litS (b : Bool) : Str := if b then "lit" else "out"
def onS (b : Bool) : Str := if b then "on" else "off"
structure Thing where
  name : Str
  phrase : List Str
  kind : Kind
  place : Place
  cap : Int
  st : LS
  lit : Bool
def Thing.ex (t : Thing) : D := match t.kind with
  | .box => .tuple [.int t.cap, .str t.st.s]
  | .lamp => .str (litS t.lit)
  | _ => .none
def Thing.d (t : Thing) : D := .tuple [.str t.name, .tuple (t.phrase.map .str), .str t.kind.s, t.place.d, t.ex]
inductive Lock where
  | door (k : Nat)
  | box (k : Nat)
  deriving DecidableEq
def Lock.d : Lock → D
  | .door k => .tuple [.str "door", .int k]
  | .box k => .tuple [.str "box", .int k]
structure Door where
  name : Str
  phrase : List Str
  one : Nat
  told : Str
  other : Nat
  st : LS
def Door.d (x : Door) : D := .tuple [.str x.name, .tuple (x.phrase.map .str), .int x.one, .str x.told, .int x.other, .str x.st.s]
inductive Cond where
  | always | never
  | not (c : Cond)
  | and (a b : Cond)
  | or (a b : Cond)
  | at_ (r : Nat)
  | has (t : Nat)
  | lies (t : Nat) (p : Place)
  | open_ (l : Lock)
  | lit (t : Nat)
  | mark (k : Nat)
  | lt (k : Nat) (n : Int)
def Cond.d : Cond → D
  | .always => .tuple [.str "always"]
  | .never => .tuple [.str "never"]
  | .not c => .tuple [.str "not", c.d]
  | .and a b => .tuple [.str "and", a.d, b.d]
  | .or a b => .tuple [.str "or", a.d, b.d]
  | .at_ r => .tuple [.str "at", .int r]
  | .has t => .tuple [.str "has", .int t]
  | .lies t p => .tuple [.str "lies", .int t, p.d]
  | .open_ l => .tuple [.str "open", l.d]
  | .lit t => .tuple [.str "lit", .int t]
  | .mark k => .tuple [.str "mark", .int k]
  | .lt k n => .tuple [.str "<", .int k, .int n]
inductive Eff where
  | bring (t : Nat) (p : Place)
  | lock (v : LS) (l : Lock)
  | mark (b : Bool) (k : Nat)
  | less (k : Nat)
  | say (ws : List Str)
  | go (r : Nat)
def lockS : LS → Str
  | .open_ => "open"
  | .closed => "close"
  | .locked => "lock"
def Eff.d : Eff → D
  | .bring t p => .tuple [.str "bring", .int t, p.d]
  | .lock v l => .tuple [.str (lockS v), l.d]
  | .mark b k => .tuple [.str (onS b), .int k]
  | .less k => .tuple [.str "less", .int k]
  | .say ws => .tuple [.str "say", .tuple (ws.map .str)]
  | .go r => .tuple [.str "go", .int r]
structure Rule where
  verb : Str
  thing : Option Nat
  cond : Cond
  effs : List Eff
def optD : Option Nat → D
  | none => .none
  | some k => .int k
def Rule.d (r : Rule) : D := .tuple [.str r.verb, optD r.thing, r.cond.d, .tuple (r.effs.map Eff.d)]
structure World where
  rooms : List (Str × Bool)
  ways : List (Nat × Str × Nat)
  doors : List Door
  things : List Thing
  keys : List (Nat × Lock)
  mark0 : Bool
  count0 : Nat
  deeds : List Rule
  afters : List (Cond × List Eff)
  start : Nat
  win : Cond
  lose : Cond
def roomD (r : Str × Bool) : D := .tuple [.str r.1, .str (if r.2 then "light" else "dark")]
def wayD (w : Nat × Str × Nat) : D := .tuple [.int w.1, .str w.2.1, .int w.2.2]
def keyDD (k : Nat × Lock) : D := .tuple [.int k.1, k.2.d]
def afterD (a : Cond × List Eff) : D := .tuple [a.1.d, .tuple (a.2.map Eff.d)]
def World.marksD (W : World) : D := .tuple [.tuple [.str "bell", .str (onS W.mark0)]]
def World.countsD (W : World) : D := .tuple [.tuple [.str "oil", .int W.count0]]
def World.d (W : World) : D := .tuple [.str "world", .tuple (W.rooms.map roomD), .tuple (W.ways.map wayD), .tuple (W.doors.map Door.d), .tuple (W.things.map Thing.d), .tuple (W.keys.map keyDD), W.marksD, W.countsD,
  .tuple (W.deeds.map Rule.d), .tuple (W.afters.map afterD), .int W.start, W.win.d, W.lose.d]
structure State where
  room : Nat
  places : List Place
  locks : List LS
  lits : List Bool
  mark : Bool
  count : Nat
def State.d (s : State) : D := .tuple [.str "state", .int s.room, .tuple (s.places.map Place.d), .tuple (s.locks.map fun l => .str l.s), .tuple (s.lits.map fun b => .str (litS b)), .tuple [.str (onS s.mark)], .tuple [.int s.count]]

/-! ### how plain terms run -/
theorem lc_run {α : Type} (enc : α → D) {fc : Env → G → Option (Bool × G)} {fe : Env → G → Option (List D × G)} {bind : D → Env → Option Env} {ρ : Env} {g : G} (p : α → Bool) (f : α → D) : ∀ (xs : List α),
    (∀ x ∈ xs, ∃ ρ1, bind (enc x) ρ = some ρ1 ∧ fc ρ1 g = some (p x, g) ∧ (p x = true → fe ρ1 g = some ([f x], g))) → lcLoop fc fe bind ρ (xs.map enc) g = some ((xs.filter p).map f, g)
  | [], _ => rfl
  | x :: xs, h => by
    obtain ⟨ρ1, h1, h2, h3⟩ := h x List.mem_cons_self
    have ih := lc_run enc p f xs fun y hy => h y (List.mem_cons_of_mem _ hy)
    rw [List.map_cons]
    simp only [lcLoop, h1, h2, Option.bind_eq_bind, Option.bind_some]
    cases hp : p x with
    | true =>
      simp only [if_true, h3 hp, ih, Option.bind_some, List.filter_cons, hp, List.map_cons, List.singleton_append]
    | false =>
      simp only [Bool.false_eq_true, if_false, ih, List.filter_cons, hp]
theorem ev_lc {α : Type} (enc : α → D) (p : α → Bool) (f : α → D) {c : Cf} {tg : Tg} {it t el : E} {ρ : Env} {g : G} {vi : Vl} {xs : List α} (hi : ev c it ρ g = some (vi, g)) (hx : vi.rd.bind itD = some (xs.map enc))
    (h : ∀ x ∈ xs, ∃ ρ1, bindTg tg (enc x) (wipeE ρ tg.slots) = some ρ1 ∧ evT c t ρ1 g = some (p x, g) ∧ (p x = true → ∃ v, ev c el ρ1 g = some (v, g) ∧ v.share = some (f x))) : ev c (.lc tg it t el) ρ g = some (.ow ((xs.filter p).map f), g) := by
  simp only [ev, hi, Option.bind_eq_bind, Option.bind_some, hx]
  rw [lc_run enc p f xs fun x hx => ?_]
  · rfl
  · obtain ⟨ρ1, h1, h2, h3⟩ := h x hx
    refine ⟨ρ1, h1, h2, fun hp => ?_⟩
    obtain ⟨v, h4, h5⟩ := h3 hp
    simp only [h4, Option.bind_some, h5]
theorem rngD0 (b : Nat) : rngD 0 (b : Int) = (List.range b).map fun (k : Nat) => PyData.int (k : Int) := by
  unfold rngD
  simp
theorem at_nat {α : Type} (xs : List α) (k : Nat) : atI xs ((k : Nat) : Int) = xs[k]? := by
  unfold atI ixN
  by_cases h : k < xs.length
  · rw [if_pos (by omega), if_pos (by omega)]
    simp
  · rw [if_pos (by omega), if_neg (by omega)]
    rw [List.getElem?_eq_none (by omega)]
    rfl

end Pu.Tw
set_option Elab.async false
set_option maxRecDepth 100000
set_option maxHeartbeats 4000000
set_option linter.all false
/-! M2: plain terms, run step by step (for simp only). -/
namespace Pu.St
open PySem L2
variable {c : Cf} {ρ : Env} {g g1 : G} {a b d e : E} {v : Vl}

/-! what a step goes on with, named: nothing within is looked at ahead of its turn -/
def kC1 (c : Cf) (b : E) (ρ : Env) (p : Vl × G) : Option (Vl × G) := p.1.share.bind fun d => (ev c b ρ p.2).bind fun q => match q.1 with
  | .sh (.tuple ds) => some (.sh (.tuple (d :: ds)), q.2)
  | _ => none
def kC2 (d : D) (q : Vl × G) : Option (Vl × G) := match q.1 with
  | .sh (.tuple ds) => some (.sh (.tuple (d :: ds)), q.2)
  | _ => none
def kC0 (c : Cf) (b : E) (ρ : Env) (g1 : G) (d : D) : Option (Vl × G) := (ev c b ρ g1).bind (kC2 d)
theorem ev_nil : ev c .nil ρ g = some (.sh (.tuple []), g) := rfl
theorem ev_cons : ev c (.cons a b) ρ g = (ev c a ρ g).bind (kC1 c b ρ) := rfl
theorem kC1_eq : kC1 c b ρ (v, g1) = v.share.bind (kC0 c b ρ g1) := rfl
theorem kC0_eq {x : D} : kC0 c b ρ g1 x = (ev c b ρ g1).bind (kC2 x) := rfl
theorem kC2_eq {x : D} {ds : List D} : kC2 x (.sh (.tuple ds), g1) = some (.sh (.tuple (x :: ds)), g1) := rfl
def nmV (o : Option (Option Vl)) (g : G) : Option (Vl × G) := match o with
  | some (some v) => some (v.borrow, g)
  | _ => none
theorem ev_nm {i : Nat} : ev c (.nm i) ρ g = nmV ρ[i]? g := rfl
theorem nmV_eq : nmV (some (some v)) g = some (v.borrow, g) := rfl
theorem ev_int {i : Int} : ev c (.int i) ρ g = some (.sh (.int i), g) := rfl
theorem ev_str {x : Str} : ev c (.str x) ρ g = some (.sh (.str x), g) := rfl
theorem ev_bl {x : Bool} : ev c (.bl x) ρ g = some (.sh (.bool x), g) := rfl
theorem ev_non : ev c .non ρ g = some (.sh .none, g) := rfl
theorem ev_gl {x : Str} : ev c (.gl x) ρ g = (c.cst x).map fun v => (v, g) := rfl
theorem ev_tu : ev c (.tu a) ρ g = ev c a ρ g := rfl
def kLi (p : Vl × G) : Option (Vl × G) := match p.1 with
  | .sh (.tuple ds) => some (.ow ds, p.2)
  | _ => none
theorem ev_li : ev c (.li a) ρ g = (ev c a ρ g).bind kLi := rfl
theorem kLi_eq {ds : List D} : kLi (.sh (.tuple ds), g1) = some (.ow ds, g1) := rfl
def kDi (p : Vl × G) : Option (Vl × G) := match p.1 with
  | .sh (.tuple ds) => (pairsD ds).map fun m => (Vl.od (mergeD [] m), p.2)
  | _ => none
theorem ev_di : ev c (.di a) ρ g = (ev c a ρ g).bind kDi := rfl
theorem kDi_eq {ds : List D} : kDi (.sh (.tuple ds), g1) = (pairsD ds).map fun m => (Vl.od (mergeD [] m), g1) := rfl
def kRp (c : Cf) (a : E) (ρ : Env) (p : Vl × G) : Option (Vl × G) := match p.1 with
  | .sh (.tuple ds) => (ev c a ρ p.2).bind fun q => match q.1 with
    | .sh (.int k) => if -9223372036854775808 ≤ k ∧ k < 9223372036854775808 ∧ ds.length * k.toNat ≤ sizeLine then some (.ow (rep k.toNat ds), q.2) else none
    | _ => none
  | _ => none
theorem ev_rp : ev c (.rp a b) ρ g = (ev c a ρ g).bind (kRp c b ρ) := rfl
/-! two values -/
def kB1 (f : D → D → G → Option (Vl × G)) (c : Cf) (b : E) (ρ : Env) (p : Vl × G) : Option (Vl × G) := p.1.rd.bind fun x => (ev c b ρ p.2).bind fun q => q.1.rd.bind fun y => f x y q.2
def kB0 (f : D → D → G → Option (Vl × G)) (c : Cf) (b : E) (ρ : Env) (g1 : G) (x : D) : Option (Vl × G) := (ev c b ρ g1).bind fun q => q.1.rd.bind fun y => f x y q.2
def kB2 (f : D → D → G → Option (Vl × G)) (x : D) (q : Vl × G) : Option (Vl × G) := q.1.rd.bind fun y => f x y q.2
theorem kB1_eq {f : D → D → G → Option (Vl × G)} : kB1 f c b ρ (v, g1) = v.rd.bind (kB0 f c b ρ g1) := rfl
theorem kB0_eq {f : D → D → G → Option (Vl × G)} {x : D} : kB0 f c b ρ g1 x = (ev c b ρ g1).bind (kB2 f x) := rfl
theorem kB2_eq {f : D → D → G → Option (Vl × G)} {x : D} : kB2 f x (v, g1) = v.rd.bind fun y => f x y g1 := rfl
def fBi (op : BOp) (x y : D) (g : G) : Option (Vl × G) := (binD op x y).bind fun r => some (r, g)
def fCm (op : COp) (x y : D) (g : G) : Option (Vl × G) := (cmpD op x y).bind fun r => some (.sh (.bool r), g)
theorem ev_bi {op : BOp} : ev c (.bi op a b) ρ g = (ev c a ρ g).bind (kB1 (fBi op) c b ρ) := rfl
theorem ev_cm {op : COp} : ev c (.cm op a b) ρ g = (ev c a ρ g).bind (kB1 (fCm op) c b ρ) := rfl
theorem fBi_eq {op : BOp} {x y : D} : fBi op x y g = (binD op x y).map fun r => (r, g) := by
  unfold fBi
  cases binD op x y <;> rfl
theorem fCm_eq {op : COp} {x y : D} : fCm op x y g = (cmpD op x y).map fun r => (.sh (.bool r), g) := by
  unfold fCm
  cases cmpD op x y <;> rfl
def fCh (o1 o2 : COp) (c : Cf) (d : E) (ρ : Env) (x y : D) (g : G) : Option (Vl × G) := (cmpD o1 x y).bind fun r => if r then (ev c d ρ g).bind fun q => q.1.rd.bind fun z => (cmpD o2 y z).bind fun r => some (.sh (.bool r), q.2) else some (.sh (.bool false), g)
theorem ev_ch {o1 o2 : COp} : ev c (.ch o1 o2 a b d) ρ g = (ev c a ρ g).bind (kB1 (fCh o1 o2 c d ρ) c b ρ) := rfl
def kCh (o2 : COp) (c : Cf) (d : E) (ρ : Env) (y : D) (g : G) (r : Bool) : Option (Vl × G) := if r then (ev c d ρ g).bind fun q => q.1.rd.bind fun z => (cmpD o2 y z).bind fun r => some (.sh (.bool r), q.2) else some (.sh (.bool false), g)
theorem fCh_eq {o1 o2 : COp} {x y : D} : fCh o1 o2 c d ρ x y g = (cmpD o1 x y).bind (kCh o2 c d ρ y g) := rfl
theorem kCh_t {o2 : COp} {y : D} : kCh o2 c d ρ y g true = (ev c d ρ g).bind (kB2 (fCm o2) y) := rfl
theorem kCh_f {o2 : COp} {y : D} : kCh o2 c d ρ y g false = some (.sh (.bool false), g) := rfl
def kNeg (p : Vl × G) : Option (Vl × G) := match p.1 with
  | .sh (.int i) => some (.sh (.int (-i)), p.2)
  | _ => none
theorem ev_neg : ev c (.neg a) ρ g = (ev c a ρ g).bind kNeg := rfl
theorem kNeg_eq {i : Int} : kNeg (.sh (.int i), g1) = some (.sh (.int (-i)), g1) := rfl
/-! and, or, not, if -/
def kAn (c : Cf) (b : E) (ρ : Env) (p : Vl × G) : Option (Vl × G) := (truth p.1).bind fun t => if t then ev c b ρ p.2 else some (p.1, p.2)
def kOr (c : Cf) (b : E) (ρ : Env) (p : Vl × G) : Option (Vl × G) := (truth p.1).bind fun t => if t then some (p.1, p.2) else ev c b ρ p.2
theorem ev_an : ev c (.an a b) ρ g = (ev c a ρ g).bind (kAn c b ρ) := rfl
theorem ev_or : ev c (.or a b) ρ g = (ev c a ρ g).bind (kOr c b ρ) := rfl
theorem kAn_t : kAn c b ρ (.sh (.bool true), g1) = ev c b ρ g1 := rfl
theorem kAn_f : kAn c b ρ (.sh (.bool false), g1) = some (.sh (.bool false), g1) := rfl
theorem kOr_t : kOr c b ρ (.sh (.bool true), g1) = some (.sh (.bool true), g1) := rfl
theorem kOr_f : kOr c b ρ (.sh (.bool false), g1) = ev c b ρ g1 := rfl
/-- where the other side is known, too -/
theorem kAn_b {x y : Bool} (h : ev c b ρ g1 = some (.sh (.bool y), g1)) : kAn c b ρ (.sh (.bool x), g1) = some (.sh (.bool (x && y)), g1) := by
  cases x
  · rfl
  · rw [kAn_t, h]; rfl
theorem kOr_b {x y : Bool} (h : ev c b ρ g1 = some (.sh (.bool y), g1)) : kOr c b ρ (.sh (.bool x), g1) = some (.sh (.bool (x || y)), g1) := by
  cases x
  · rw [kOr_f, h]; rfl
  · rfl
def kNo (p : Vl × G) : Option (Vl × G) := (truth p.1).map fun t => (.sh (.bool (!t)), p.2)
theorem ev_no : ev c (.no a) ρ g = (ev c a ρ g).bind kNo := by
  simp only [ev, Option.bind_eq_bind]
  congr 1
  funext p
  unfold kNo
  cases truth p.1 <;> rfl
theorem kNo_eq {x : Bool} : kNo (.sh (.bool x), g1) = some (.sh (.bool (!x)), g1) := rfl
def kT (p : Vl × G) : Option (Bool × G) := (truth p.1).map fun t => (t, p.2)
theorem evT_eq : evT c a ρ g = (ev c a ρ g).bind kT := by
  simp only [evT, Option.bind_eq_bind]
  congr 1
  funext p
  unfold kT
  cases truth p.1 <;> rfl
theorem kT_eq {x : Bool} : kT (.sh (.bool x), g1) = some (x, g1) := rfl
theorem kT_ow {xs : List D} : kT (.ow xs, g1) = some (!xs.isEmpty, g1) := rfl
def kIe (c : Cf) (a b : E) (ρ : Env) (p : Bool × G) : Option (Vl × G) := if p.1 then ev c a ρ p.2 else ev c b ρ p.2
theorem ev_ie : ev c (.ie d a b) ρ g = (evT c d ρ g).bind (kIe c a b ρ) := by
  simp only [ev, evT, Option.bind_eq_bind, Option.bind_assoc]
  congr 1
theorem kIe_t : kIe c a b ρ (true, g1) = ev c a ρ g1 := rfl
theorem kIe_f : kIe c a b ρ (false, g1) = ev c b ρ g1 := rfl
theorem kIe_b {x : Bool} {v w : Vl} (h1 : x = true → ev c a ρ g1 = some (v, g1)) (h2 : x = false → ev c b ρ g1 = some (w, g1)) : kIe c a b ρ (x, g1) = some (if x then v else w, g1) := by
  cases x
  · exact h2 rfl
  · exact h1 rfl
/-! items, parts -/
def kIx (c : Cf) (b : E) (ρ : Env) (p : Vl × G) : Option (Vl × G) := (ev c b ρ p.2).bind fun q => q.1.rd.bind fun i => (getIx p.1 i).bind fun d => some (.sh d, q.2)
def kIx2 (va : Vl) (q : Vl × G) : Option (Vl × G) := q.1.rd.bind fun i => (getIx va i).bind fun d => some (.sh d, q.2)
theorem ev_ix : ev c (.ix a b) ρ g = (ev c a ρ g).bind (kIx c b ρ) := rfl
theorem kIx_eq : kIx c b ρ (v, g1) = (ev c b ρ g1).bind (kIx2 v) := rfl
theorem kIx2_sh {x y : D} : kIx2 (.sh x) (.sh y, g1) = (ixD x y).map fun d => (.sh d, g1) := by
  show (ixD x y).bind (fun d => some (Vl.sh d, g1)) = _
  cases ixD x y <;> rfl
theorem kIx2_bw {xs : List D} {y : D} : kIx2 (.bw xs) (.sh y, g1) = (ixD (.list xs) y).map fun d => (.sh d, g1) := by
  show (ixD (.list xs) y).bind (fun d => some (Vl.sh d, g1)) = _
  cases ixD (.list xs) y <;> rfl
theorem kIx2_ow {xs : List D} {y : D} : kIx2 (.ow xs) (.sh y, g1) = (ixD (.list xs) y).map fun d => (.sh d, g1) := by
  show (ixD (.list xs) y).bind (fun d => some (Vl.sh d, g1)) = _
  cases ixD (.list xs) y <;> rfl
theorem kIx2_od {m : List (Key × D)} {y : D} : kIx2 (.od m) (.sh y, g1) = ((keyD y).bind (lookD m)).map fun d => (.sh d, g1) := by
  show ((keyD y).bind (lookD m)).bind (fun d => some (Vl.sh d, g1)) = _
  cases (keyD y).bind (lookD m) <;> rfl
theorem kIx2_bd {m : List (Key × D)} {y : D} : kIx2 (.bd m) (.sh y, g1) = ((keyD y).bind (lookD m)).map fun d => (.sh d, g1) := by
  show ((keyD y).bind (lookD m)).bind (fun d => some (Vl.sh d, g1)) = _
  cases (keyD y).bind (lookD m) <;> rfl
def kSl (c : Cf) (lo hi : E) (ρ : Env) (p : Vl × G) : Option (Vl × G) := p.1.rd.bind fun x => (partO lo.isNil (fun ρ g => ev c lo ρ g) ρ p.2).bind fun l => (partO hi.isNil (fun ρ g => ev c hi ρ g) ρ l.2).bind fun h => (slD x l.1 h.1).bind fun r => some (r, h.2)
def kSl0 (c : Cf) (lo hi : E) (ρ : Env) (g1 : G) (x : D) : Option (Vl × G) := (partO lo.isNil (fun ρ g => ev c lo ρ g) ρ g1).bind fun l => (partO hi.isNil (fun ρ g => ev c hi ρ g) ρ l.2).bind fun h => (slD x l.1 h.1).bind fun r => some (r, h.2)
def kSl1 (c : Cf) (hi : E) (ρ : Env) (x : D) (l : Option Int × G) : Option (Vl × G) := (partO hi.isNil (fun ρ g => ev c hi ρ g) ρ l.2).bind fun h => (slD x l.1 h.1).bind fun r => some (r, h.2)
def kSl2 (x : D) (l : Option Int) (h : Option Int × G) : Option (Vl × G) := (slD x l h.1).bind fun r => some (r, h.2)
def pO (c : Cf) (lo : E) (ρ : Env) (g : G) : Option (Option Int × G) := partO lo.isNil (fun ρ g => ev c lo ρ g) ρ g
def kPO (q : Vl × G) : Option (Option Int × G) := (partD q.1).map fun i => (some i, q.2)
theorem ev_sl {lo hi : E} : ev c (.sl a lo hi) ρ g = (ev c a ρ g).bind (kSl c lo hi ρ) := rfl
theorem kSl_eq {lo hi : E} : kSl c lo hi ρ (v, g1) = v.rd.bind (kSl0 c lo hi ρ g1) := rfl
theorem kSl0_eq {lo hi : E} {x : D} : kSl0 c lo hi ρ g1 x = (pO c lo ρ g1).bind (kSl1 c hi ρ x) := rfl
theorem kSl1_eq {hi : E} {x : D} {l : Option Int} : kSl1 c hi ρ x (l, g1) = (pO c hi ρ g1).bind (kSl2 x l) := rfl
theorem kSl2_eq {x : D} {l h : Option Int} : kSl2 x l (h, g1) = (slD x l h).map fun r => (r, g1) := by
  show (slD x l h).bind (fun r => some (r, g1)) = _
  cases slD x l h <;> rfl
theorem pO_nil : pO c .nil ρ g = some (none, g) := rfl
theorem pO_some (h : a.isNil = false) : pO c a ρ g = (ev c a ρ g).bind kPO := by
  unfold pO partO
  rw [h]
  simp only [Bool.false_eq_true, if_false, Option.bind_eq_bind]
  congr 1
  funext q
  unfold kPO
  cases partD q.1 <;> rfl
theorem pO_int {i : Int} : pO c (.int i) ρ g = (ev c (.int i) ρ g).bind kPO := pO_some rfl
theorem pO_nm {i : Nat} : pO c (.nm i) ρ g = (ev c (.nm i) ρ g).bind kPO := pO_some rfl
theorem pO_bi {op : BOp} : pO c (.bi op a b) ρ g = (ev c (.bi op a b) ρ g).bind kPO := pO_some rfl
theorem pO_ix : pO c (.ix a b) ρ g = (ev c (.ix a b) ρ g).bind kPO := pO_some rfl
theorem pO_bf {f : Bf} : pO c (.bf f a) ρ g = (ev c (.bf f a) ρ g).bind kPO := pO_some rfl
theorem kPO_eq {i : Int} : kPO (.sh (.int i), g1) = some (some i, g1) := rfl
/-! calls -/
def kCa (c : Cf) (f : Str) (gi : Option Nat) (ρ : Env) (p : Vl × G) : Option (Vl × G) := match p.1 with
  | .sh (.tuple ds) => match gi with
    | none => c.call f false ds p.2
    | some i => match ρ[i]? with
      | some (some .gen) => c.call f true ds p.2
      | _ => none
  | _ => none
theorem ev_ca {f : Str} {gi : Option Nat} : ev c (.ca f gi a) ρ g = (ev c a ρ g).bind (kCa c f gi ρ) := rfl
theorem kCa_n {f : Str} {ds : List D} : kCa c f none ρ (.sh (.tuple ds), g1) = c.call f false ds g1 := rfl
theorem kCa_g {f : Str} {i : Nat} {ds : List D} (h : ρ[i]? = some (some .gen)) : kCa c f (some i) ρ (.sh (.tuple ds), g1) = c.call f true ds g1 := by
  unfold kCa
  simp only [h]
def kR1 (c : Cf) (b : E) (ρ : Env) (p : Vl × G) : Option (List D × G) := p.1.rd.bind fun d => (ev.evR c b ρ p.2).bind fun q => some (d :: q.1, q.2)
def kR0 (c : Cf) (b : E) (ρ : Env) (g1 : G) (d : D) : Option (List D × G) := (ev.evR c b ρ g1).bind fun q => some (d :: q.1, q.2)
theorem evR_nil : ev.evR c .nil ρ g = some ([], g) := rfl
theorem evR_cons : ev.evR c (.cons a b) ρ g = (ev c a ρ g).bind (kR1 c b ρ) := rfl
theorem kR1_eq : kR1 c b ρ (v, g1) = v.rd.bind (kR0 c b ρ g1) := rfl
theorem kR0_eq {d : D} : kR0 c b ρ g1 d = (ev.evR c b ρ g1).bind fun q => some (d :: q.1, q.2) := rfl
def kBf (f : Bf) (q : List D × G) : Option (Vl × G) := (bfD f q.1).bind fun r => some (r, q.2)
theorem ev_bf {f : Bf} : ev c (.bf f a) ρ g = (ev.evR c a ρ g).bind (kBf f) := rfl
theorem kBf_eq {f : Bf} {ds : List D} : kBf f (ds, g1) = (bfD f ds).map fun r => (r, g1) := by
  show (bfD f ds).bind (fun r => some (r, g1)) = _
  cases bfD f ds <;> rfl
def kMe (c : Cf) (m : Me) (es : E) (ρ : Env) (p : Vl × G) : Option (Vl × G) := (ev.evR c es ρ p.2).bind fun q => (meD m p.1 q.1).bind fun r => some (r, q.2)
def kMe2 (m : Me) (v : Vl) (q : List D × G) : Option (Vl × G) := (meD m v q.1).bind fun r => some (r, q.2)
theorem ev_me {m : Me} : ev c (.me m a b) ρ g = (ev c a ρ g).bind (kMe c m b ρ) := rfl
theorem kMe_eq {m : Me} : kMe c m b ρ (v, g1) = (ev.evR c b ρ g1).bind (kMe2 m v) := rfl
theorem kMe2_eq {m : Me} {ds : List D} : kMe2 m v (ds, g1) = (meD m v ds).map fun r => (r, g1) := by
  show (meD m v ds).bind (fun r => some (r, g1)) = _
  cases meD m v ds <;> rfl
def kIsi (t : Ty) (p : Vl × G) : Option (Vl × G) := p.1.rd.bind fun x => some (.sh (.bool (isiD x t)), p.2)
theorem ev_isi {t : Ty} : ev c (.isi a t) ρ g = (ev c a ρ g).bind (kIsi t) := rfl
theorem kIsi_sh {t : Ty} {x : D} : kIsi t (.sh x, g1) = some (.sh (.bool (isiD x t)), g1) := rfl
def kR1r (p : Vl × G) : Option (Vl × G) := (rgD (.sh (.int 0)) p.1).bind fun xs => some (.ow xs, p.2)
theorem ev_r1 : ev c (.r1 a) ρ g = (ev c a ρ g).bind kR1r := rfl
theorem ev_l1 : ev c (.l1 a) ρ g = (ev c a ρ g).bind kR1r := rfl
theorem kR1r_eq {n : Nat} (h : n ≤ 16777216) : kR1r (.sh (.int n), g1) = some (.ow ((List.range n).map fun (k : Nat) => PyData.int (k : Int)), g1) := by
  unfold kR1r rgD
  dsimp only
  rw [if_pos (by omega), Tw.rngD0]
  rfl
def kR2r (c : Cf) (b : E) (ρ : Env) (p : Vl × G) : Option (Vl × G) := (ev c b ρ p.2).bind fun q => (rgD p.1 q.1).bind fun xs => some (.ow xs, q.2)
def kR2s (v : Vl) (q : Vl × G) : Option (Vl × G) := (rgD v q.1).bind fun xs => some (.ow xs, q.2)
theorem ev_r2 : ev c (.r2 a b) ρ g = (ev c a ρ g).bind (kR2r c b ρ) := rfl
theorem kR2r_eq : kR2r c b ρ (v, g1) = (ev c b ρ g1).bind (kR2s v) := rfl
/-! statements -/
def kS (c : Cf) (s : S) (q : Out × Env × G) : Option (Out × Env × G) := match q.1 with
  | .nx => ex c s q.2.1 q.2.2
  | o => some (o, q.2.1, q.2.2)
variable {s t : S}
theorem ex_nop : ex c .nop ρ g = some (.nx, ρ, g) := rfl
theorem ex_seq : ex c (.seq s t) ρ g = (ex c s ρ g).bind (kS c t) := rfl
theorem kS_nx {ρ1 : Env} : kS c t (.nx, ρ1, g1) = ex c t ρ1 g1 := rfl
theorem kS_rt {ρ1 : Env} : kS c t (.rt v, ρ1, g1) = some (.rt v, ρ1, g1) := rfl
theorem kS_br {ρ1 : Env} : kS c t (.br, ρ1, g1) = some (.br, ρ1, g1) := rfl
theorem kS_ct {ρ1 : Env} : kS c t (.ct, ρ1, g1) = some (.ct, ρ1, g1) := rfl
def kAs (i : Nat) (ρ : Env) (p : Vl × G) : Option (Out × Env × G) := p.1.keep.bind fun v => some (.nx, ρ.set i (some v), p.2)
theorem ex_as {i : Nat} : ex c (.as_ i e) ρ g = (ev c e ρ g).bind (kAs i ρ) := rfl
theorem kAs_sh {i : Nat} {x : D} : kAs i ρ (.sh x, g1) = some (.nx, ρ.set i (some (.sh x)), g1) := rfl
theorem kAs_ow {i : Nat} {xs : List D} : kAs i ρ (.ow xs, g1) = some (.nx, ρ.set i (some (.ow xs)), g1) := rfl
theorem kAs_od {i : Nat} {m : List (Key × D)} : kAs i ρ (.od m, g1) = some (.nx, ρ.set i (some (.od m)), g1) := rfl
def kPa (is : List Nat) (ρ : Env) (q : List Vl × G) : Option (Out × Env × G) := if q.1.length = is.length then some (.nx, setAll ρ is q.1, q.2) else none
theorem ex_par {is : List Nat} : ex c (.par is e) ρ g = (evP c e ρ g).bind (kPa is ρ) := rfl
theorem kPa_eq {is : List Nat} {vs : List Vl} (h : vs.length = is.length) : kPa is ρ (vs, g1) = some (.nx, setAll ρ is vs, g1) := if_pos h
def kP1 (c : Cf) (b : E) (ρ : Env) (p : Vl × G) : Option (List Vl × G) := p.1.keep.bind fun d => (evP c b ρ p.2).bind fun q => some (d :: q.1, q.2)
def kP0 (c : Cf) (b : E) (ρ : Env) (g1 : G) (d : Vl) : Option (List Vl × G) := (evP c b ρ g1).bind fun q => some (d :: q.1, q.2)
theorem evP_nil : evP c .nil ρ g = some ([], g) := rfl
theorem evP_cons : evP c (.cons a b) ρ g = (ev c a ρ g).bind (kP1 c b ρ) := rfl
theorem kP1_eq : kP1 c b ρ (v, g1) = v.keep.bind (kP0 c b ρ g1) := rfl
theorem kP0_eq {d : Vl} : kP0 c b ρ g1 d = (evP c b ρ g1).bind fun q => some (d :: q.1, q.2) := rfl
def kUp (is : List Nat) (ρ : Env) (p : Vl × G) : Option (Out × Env × G) := p.1.rd.bind fun d => (bindTg (.tu is) d ρ).bind fun ρ1 => some (.nx, ρ1, p.2)
theorem ex_up {is : List Nat} : ex c (.up is e) ρ g = (ev c e ρ g).bind (kUp is ρ) := rfl
theorem kUp_eq {is : List Nat} {ds : List D} (h : is.length = ds.length) : kUp is ρ (.sh (.tuple ds), g1) = some (.nx, (is.zip ds).foldl (fun ρ p => ρ.set p.1 (some (.sh p.2))) ρ, g1) := by
  show (if is.length = ds.length then _ else _ : Option Env).bind _ = _
  rw [if_pos h]
  rfl
def kIf (c : Cf) (s t : S) (ρ : Env) (p : Bool × G) : Option (Out × Env × G) := if p.1 then ex c s ρ p.2 else ex c t ρ p.2
theorem ex_if {x : E} : ex c (.if_ x s t) ρ g = (evT c x ρ g).bind (kIf c s t ρ) := rfl
theorem kIf_t : kIf c s t ρ (true, g1) = ex c s ρ g1 := rfl
theorem kIf_f : kIf c s t ρ (false, g1) = ex c t ρ g1 := rfl
def kRe (ρ : Env) (p : Vl × G) : Option (Out × Env × G) := p.1.back.bind fun v => some (.rt v, ρ, p.2)
theorem ex_re : ex c (.re e) ρ g = (ev c e ρ g).bind (kRe ρ) := rfl
theorem kRe_sh {x : D} : kRe ρ (.sh x, g1) = some (.rt (.sh x), ρ, g1) := rfl
theorem kRe_ow {xs : List D} : kRe ρ (.ow xs, g1) = some (.rt (.ow xs), ρ, g1) := rfl
theorem kRe_bw {xs : List D} : kRe ρ (.bw xs, g1) = some (.rt (.ow xs), ρ, g1) := rfl
def kAp (i : Nat) (ρ : Env) (p : Vl × G) : Option (Out × Env × G) := p.1.share.bind fun d => match ρ[i]? with
  | some (some (.ow xs)) => if xs.length < sizeLine then some (.nx, ρ.set i (some (.ow (xs ++ [d]))), p.2) else none
  | _ => none
theorem ex_ap {i : Nat} : ex c (.ap i e) ρ g = (ev c e ρ g).bind (kAp i ρ) := rfl
theorem kAp_eq {i : Nat} {d : D} {xs : List D} (hs : v.share = some d) (h : ρ[i]? = some (some (.ow xs))) (hl : xs.length < sizeLine) : kAp i ρ (v, g1) = some (.nx, ρ.set i (some (.ow (xs ++ [d]))), g1) := by
  unfold kAp
  simp only [hs, Option.bind_some, h, if_pos hl]
def kEx (i : Nat) (ρ : Env) (p : Vl × G) : Option (Out × Env × G) := p.1.lst.bind fun ys => match ρ[i]? with
  | some (some (.ow xs)) => if xs.length + ys.length ≤ sizeLine then some (.nx, ρ.set i (some (.ow (xs ++ ys))), p.2) else none
  | _ => none
def apV (o : Option (Option Vl)) (i : Nat) (ρ : Env) (d : D) (g : G) : Option (Out × Env × G) := match o with
  | some (some (.ow xs)) => if xs.length < sizeLine then some (.nx, ρ.set i (some (.ow (xs ++ [d]))), g) else none
  | _ => none
theorem kAp_sh {i : Nat} {d : D} : kAp i ρ (.sh d, g1) = apV ρ[i]? i ρ d g1 := rfl
theorem kAp_ow {i : Nat} {xs : List D} : kAp i ρ (.ow xs, g1) = apV ρ[i]? i ρ (.list xs) g1 := rfl
theorem apV_ow {i : Nat} {d : D} {xs : List D} : apV (some (some (.ow xs))) i ρ d g1 = if xs.length < sizeLine then some (.nx, ρ.set i (some (.ow (xs ++ [d]))), g1) else none := rfl
theorem ex_ex {i : Nat} : ex c (.ex i e) ρ g = (ev c e ρ g).bind (kEx i ρ) := rfl
theorem kEx_eq {i : Nat} {ys xs : List D} (hs : v.lst = some ys) (h : ρ[i]? = some (some (.ow xs))) (hl : xs.length + ys.length ≤ sizeLine) : kEx i ρ (v, g1) = some (.nx, ρ.set i (some (.ow (xs ++ ys))), g1) := by
  unfold kEx
  simp only [hs, Option.bind_some, h, if_pos hl]
def exV (o : Option (Option Vl)) (i : Nat) (ρ : Env) (ys : List D) (g : G) : Option (Out × Env × G) := match o with
  | some (some (.ow xs)) => if xs.length + ys.length ≤ sizeLine then some (.nx, ρ.set i (some (.ow (xs ++ ys))), g) else none
  | _ => none
theorem kEx_ow {i : Nat} {ys : List D} : kEx i ρ (.ow ys, g1) = exV ρ[i]? i ρ ys g1 := rfl
theorem kEx_bw {i : Nat} {ys : List D} : kEx i ρ (.bw ys, g1) = exV ρ[i]? i ρ ys g1 := rfl
theorem exV_ow {i : Nat} {ys xs : List D} : exV (some (some (.ow xs))) i ρ ys g1 = if xs.length + ys.length ≤ sizeLine then some (.nx, ρ.set i (some (.ow (xs ++ ys))), g1) else none := rfl
def fzV (o : Option (Option Vl)) (i : Nat) (ρ : Env) (g : G) : Option (Out × Env × G) := match o with
  | some (some (.ow xs)) => some (.nx, ρ.set i (some (.sh (.list xs))), g)
  | _ => some (.nx, ρ, g)
theorem ex_fz {i : Nat} : ex c (.fz i) ρ g = fzV ρ[i]? i ρ g := rfl
theorem fzV_ow {i : Nat} {xs : List D} : fzV (some (some (.ow xs))) i ρ g = some (.nx, ρ.set i (some (.sh (.list xs))), g) := rfl
theorem fzV_sh {i : Nat} {x : D} : fzV (some (some (.sh x))) i ρ g = some (.nx, ρ, g) := rfl
def kFo (c : Cf) (tg : Tg) (s : S) (ρ : Env) (p : Vl × G) : Option (Out × Env × G) := p.1.share.bind fun d => (itD d).bind fun xs => forLoop (ex c s) (bindTg tg) xs ρ p.2
theorem ex_fo {tg : Tg} : ex c (.fo tg e s) ρ g = (ev c e ρ g).bind (kFo c tg s ρ) := rfl
theorem kFo_eq {tg : Tg} {d : D} {xs : List D} (hs : v.share = some d) (h : itD d = some xs) : kFo c tg s ρ (v, g1) = forLoop (ex c s) (bindTg tg) xs ρ g1 := by
  unfold kFo
  simp only [hs, Option.bind_some, h]
def kFl (body : Env → G → Option (Out × Env × G)) (bind : D → Env → Option Env) (xs : List D) (q : Out × Env × G) : Option (Out × Env × G) := match q.1 with
  | .nx => forLoop body bind xs q.2.1 q.2.2
  | .ct => forLoop body bind xs q.2.1 q.2.2
  | .br => some (.nx, q.2.1, q.2.2)
  | .rt v => some (.rt v, q.2.1, q.2.2)
def kFl0 (body : Env → G → Option (Out × Env × G)) (bind : D → Env → Option Env) (xs : List D) (g : G) (ρ1 : Env) : Option (Out × Env × G) := (body ρ1 g).bind (kFl body bind xs)
theorem fl_nil {body : Env → G → Option (Out × Env × G)} {bind : D → Env → Option Env} : forLoop body bind [] ρ g = some (.nx, ρ, g) := rfl
theorem fl_cons {body : Env → G → Option (Out × Env × G)} {bind : D → Env → Option Env} {x : D} {xs : List D} : forLoop body bind (x :: xs) ρ g = (bind x ρ).bind (kFl0 body bind xs g) := by
  simp only [forLoop, Option.bind_eq_bind]
  congr 1
theorem kFl0_eq {body : Env → G → Option (Out × Env × G)} {bind : D → Env → Option Env} {xs : List D} {ρ1 : Env} : kFl0 body bind xs g ρ1 = (body ρ1 g).bind (kFl body bind xs) := rfl
theorem kFl_nx {body : Env → G → Option (Out × Env × G)} {bind : D → Env → Option Env} {xs : List D} {ρ1 : Env} : kFl body bind xs (.nx, ρ1, g1) = forLoop body bind xs ρ1 g1 := rfl
theorem ex_rn : ex c .rn ρ g = some (.rt (.sh .none), ρ, g) := rfl
/-! values -/
theorem share_sh {x : D} : (Vl.sh x).share = some x := rfl
theorem share_ow {xs : List D} : (Vl.ow xs).share = some (.list xs) := rfl
theorem rd_sh {x : D} : (Vl.sh x).rd = some x := rfl
theorem rd_ow {xs : List D} : (Vl.ow xs).rd = some (.list xs) := rfl
theorem rd_bw {xs : List D} : (Vl.bw xs).rd = some (.list xs) := rfl
theorem bo_sh {x : D} : (Vl.sh x).borrow = .sh x := rfl
theorem bo_ow {xs : List D} : (Vl.ow xs).borrow = .bw xs := rfl
theorem bo_od {m : List (Key × D)} : (Vl.od m).borrow = .bd m := rfl
theorem keep_sh {x : D} : (Vl.sh x).keep = some (.sh x) := rfl
theorem keep_ow {xs : List D} : (Vl.ow xs).keep = some (.ow xs) := rfl
theorem lst_ow {xs : List D} : (Vl.ow xs).lst = some xs := rfl
theorem lst_bw {xs : List D} : (Vl.bw xs).lst = some xs := rfl
/-! a def -/
def kF (q : Out × Env × G) : Option (Vl × G) := (outV q.1).bind fun v => some (v, q.2.2)
theorem call_eq {p : Prog} {cst : Str → Option Vl} {n : Nat} {f : Str} {gen : Bool} {ds : List D} {F : Fn} (hl : lookF p f = some F) (hn : f ≠ "_law_take") (hg : F.gen = gen) (ha : F.ar = ds.length) :
    call p cst (n + 1) f gen ds g = (ex ⟨call p cst n, cst⟩ F.body (F.start ds) g).bind kF := by
  rw [call, if_neg hn, hl]
  dsimp only
  rw [runF, if_pos ⟨hg, ha⟩]
  rfl
theorem kF_rt {ρ1 : Env} : kF (.rt v, ρ1, g1) = some (v, g1) := rfl
theorem kF_nx {ρ1 : Env} : kF (.nx, ρ1, g1) = some (.sh .none, g1) := rfl
end Pu.St
set_option Elab.async false
set_option maxRecDepth 100000
set_option linter.all false
namespace K04
open Pu PySem Pu.St
variable {n : Nat} {g : G}

theorem u_lock_number {a0 a1 : D} : Pu.call prog cst (n + 1) "lock_number" false [a0, a1] g = (ex ⟨Pu.call prog cst n, cst⟩ F_lock_number.body [some (.sh a0), some (.sh a1), none] g).bind kF := call_eq (F := F_lock_number) (f := "lock_number") (by kernel_rfl) (by decide +kernel) rfl rfl
theorem u_lamp_number {a0 a1 : D} : Pu.call prog cst (n + 1) "lamp_number" false [a0, a1] g = (ex ⟨Pu.call prog cst n, cst⟩ F_lamp_number.body [some (.sh a0), some (.sh a1), none] g).bind kF := call_eq (F := F_lamp_number) (f := "lamp_number") (by kernel_rfl) (by decide +kernel) rfl rfl
theorem u_holds {a0 a1 a2 : D} : Pu.call prog cst (n + 1) "holds" false [a0, a1, a2] g = (ex ⟨Pu.call prog cst n, cst⟩ F_holds.body [some (.sh a0), some (.sh a1), some (.sh a2), none] g).bind kF := call_eq (F := F_holds) (f := "holds") (by kernel_rfl) (by decide +kernel) rfl rfl
theorem u_single {a0 a1 a2 : D} : Pu.call prog cst (n + 1) "single" false [a0, a1, a2] g = (ex ⟨Pu.call prog cst n, cst⟩ F_single.body [some (.sh a0), some (.sh a1), some (.sh a2), none] g).bind kF := call_eq (F := F_single) (f := "single") (by kernel_rfl) (by decide +kernel) rfl rfl
theorem u_is_whole {a0 a1 a2 : D} : Pu.call prog cst (n + 1) "is_whole" false [a0, a1, a2] g = (ex ⟨Pu.call prog cst n, cst⟩ F_is_whole.body [some (.sh a0), some (.sh a1), some (.sh a2)] g).bind kF := call_eq (F := F_is_whole) (f := "is_whole") (by kernel_rfl) (by decide +kernel) rfl rfl
theorem u_is_one_of {a0 a1 : D} : Pu.call prog cst (n + 1) "is_one_of" false [a0, a1] g = (ex ⟨Pu.call prog cst n, cst⟩ F_is_one_of.body [some (.sh a0), some (.sh a1)] g).bind kF := call_eq (F := F_is_one_of) (f := "is_one_of") (by kernel_rfl) (by decide +kernel) rfl rfl
theorem u_is_place {a0 a1 : D} : Pu.call prog cst (n + 1) "is_place" false [a0, a1] g = (ex ⟨Pu.call prog cst n, cst⟩ F_is_place.body [some (.sh a0), some (.sh a1)] g).bind kF := call_eq (F := F_is_place) (f := "is_place") (by kernel_rfl) (by decide +kernel) rfl rfl
theorem u_may_be {a0 a1 a2 : D} : Pu.call prog cst (n + 1) "may_be" false [a0, a1, a2] g = (ex ⟨Pu.call prog cst n, cst⟩ F_may_be.body [some (.sh a0), some (.sh a1), some (.sh a2)] g).bind kF := call_eq (F := F_may_be) (f := "may_be") (by kernel_rfl) (by decide +kernel) rfl rfl
theorem u_boxes {a0 : D} : Pu.call prog cst (n + 1) "boxes" false [a0] g = (ex ⟨Pu.call prog cst n, cst⟩ F_boxes.body [some (.sh a0), none] g).bind kF := call_eq (F := F_boxes) (f := "boxes") (by kernel_rfl) (by decide +kernel) rfl rfl
theorem u_lamps {a0 : D} : Pu.call prog cst (n + 1) "lamps" false [a0] g = (ex ⟨Pu.call prog cst n, cst⟩ F_lamps.body [some (.sh a0), none] g).bind kF := call_eq (F := F_lamps) (f := "lamps") (by kernel_rfl) (by decide +kernel) rfl rfl
theorem u_locks {a0 : D} : Pu.call prog cst (n + 1) "locks" false [a0] g = (ex ⟨Pu.call prog cst n, cst⟩ F_locks.body [some (.sh a0), none] g).bind kF := call_eq (F := F_locks) (f := "locks") (by kernel_rfl) (by decide +kernel) rfl rfl
theorem u_start {a0 : D} : Pu.call prog cst (n + 1) "start" false [a0] g = (ex ⟨Pu.call prog cst n, cst⟩ F_start.body [some (.sh a0), none, none, none, none, none, none, none] g).bind kF := call_eq (F := F_start) (f := "start") (by kernel_rfl) (by decide +kernel) rfl rfl
theorem u_is_state {a0 a1 : D} : Pu.call prog cst (n + 1) "is_state" false [a0, a1] g = (ex ⟨Pu.call prog cst n, cst⟩ F_is_state.body [some (.sh a0), some (.sh a1), none, none, none] g).bind kF := call_eq (F := F_is_state) (f := "is_state") (by kernel_rfl) (by decide +kernel) rfl rfl
theorem u_sizes {a0 : D} : Pu.call prog cst (n + 1) "sizes" false [a0] g = (ex ⟨Pu.call prog cst n, cst⟩ F_sizes.body [some (.sh a0)] g).bind kF := call_eq (F := F_sizes) (f := "sizes") (by kernel_rfl) (by decide +kernel) rfl rfl
theorem u_is_won {a0 a1 : D} : Pu.call prog cst (n + 1) "is_won" false [a0, a1] g = (ex ⟨Pu.call prog cst n, cst⟩ F_is_won.body [some (.sh a0), some (.sh a1)] g).bind kF := call_eq (F := F_is_won) (f := "is_won") (by kernel_rfl) (by decide +kernel) rfl rfl
theorem u_is_lost {a0 a1 : D} : Pu.call prog cst (n + 1) "is_lost" false [a0, a1] g = (ex ⟨Pu.call prog cst n, cst⟩ F_is_lost.body [some (.sh a0), some (.sh a1)] g).bind kF := call_eq (F := F_is_lost) (f := "is_lost") (by kernel_rfl) (by decide +kernel) rfl rfl
theorem u_is_over {a0 a1 : D} : Pu.call prog cst (n + 1) "is_over" false [a0, a1] g = (ex ⟨Pu.call prog cst n, cst⟩ F_is_over.body [some (.sh a0), some (.sh a1)] g).bind kF := call_eq (F := F_is_over) (f := "is_over") (by kernel_rfl) (by decide +kernel) rfl rfl
theorem u_room_of {a0 a1 a2 : D} : Pu.call prog cst (n + 1) "room_of" false [a0, a1, a2] g = (ex ⟨Pu.call prog cst n, cst⟩ F_room_of.body [some (.sh a0), some (.sh a1), some (.sh a2), none] g).bind kF := call_eq (F := F_room_of) (f := "room_of") (by kernel_rfl) (by decide +kernel) rfl rfl
theorem u_is_shut_in {a0 a1 a2 : D} : Pu.call prog cst (n + 1) "is_shut_in" false [a0, a1, a2] g = (ex ⟨Pu.call prog cst n, cst⟩ F_is_shut_in.body [some (.sh a0), some (.sh a1), some (.sh a2), none] g).bind kF := call_eq (F := F_is_shut_in) (f := "is_shut_in") (by kernel_rfl) (by decide +kernel) rfl rfl
theorem u_is_bright {a0 a1 : D} : Pu.call prog cst (n + 1) "is_bright" false [a0, a1] g = (ex ⟨Pu.call prog cst n, cst⟩ F_is_bright.body [some (.sh a0), some (.sh a1), none] g).bind kF := call_eq (F := F_is_bright) (f := "is_bright") (by kernel_rfl) (by decide +kernel) rfl rfl
theorem u_is_seen {a0 a1 a2 : D} : Pu.call prog cst (n + 1) "is_seen" false [a0, a1, a2] g = (ex ⟨Pu.call prog cst n, cst⟩ F_is_seen.body [some (.sh a0), some (.sh a1), some (.sh a2)] g).bind kF := call_eq (F := F_is_seen) (f := "is_seen") (by kernel_rfl) (by decide +kernel) rfl rfl
theorem u_is_lock_seen {a0 a1 a2 : D} : Pu.call prog cst (n + 1) "is_lock_seen" false [a0, a1, a2] g = (ex ⟨Pu.call prog cst n, cst⟩ F_is_lock_seen.body [some (.sh a0), some (.sh a1), some (.sh a2), none] g).bind kF := call_eq (F := F_is_lock_seen) (f := "is_lock_seen") (by kernel_rfl) (by decide +kernel) rfl rfl
theorem u_seen {a0 a1 : D} : Pu.call prog cst (n + 1) "seen" false [a0, a1] g = (ex ⟨Pu.call prog cst n, cst⟩ F_seen.body [some (.sh a0), some (.sh a1), none] g).bind kF := call_eq (F := F_seen) (f := "seen") (by kernel_rfl) (by decide +kernel) rfl rfl
theorem u_held {a0 a1 : D} : Pu.call prog cst (n + 1) "held" false [a0, a1] g = (ex ⟨Pu.call prog cst n, cst⟩ F_held.body [some (.sh a0), some (.sh a1), none] g).bind kF := call_eq (F := F_held) (f := "held") (by kernel_rfl) (by decide +kernel) rfl rfl
theorem u_inside {a0 a1 a2 : D} : Pu.call prog cst (n + 1) "inside" false [a0, a1, a2] g = (ex ⟨Pu.call prog cst n, cst⟩ F_inside.body [some (.sh a0), some (.sh a1), some (.sh a2), none] g).bind kF := call_eq (F := F_inside) (f := "inside") (by kernel_rfl) (by decide +kernel) rfl rfl
theorem u_lying {a0 a1 a2 : D} : Pu.call prog cst (n + 1) "lying" false [a0, a1, a2] g = (ex ⟨Pu.call prog cst n, cst⟩ F_lying.body [some (.sh a0), some (.sh a1), some (.sh a2), none] g).bind kF := call_eq (F := F_lying) (f := "lying") (by kernel_rfl) (by decide +kernel) rfl rfl
theorem u_lock_state {a0 a1 a2 : D} : Pu.call prog cst (n + 1) "lock_state" false [a0, a1, a2] g = (ex ⟨Pu.call prog cst n, cst⟩ F_lock_state.body [some (.sh a0), some (.sh a1), some (.sh a2)] g).bind kF := call_eq (F := F_lock_state) (f := "lock_state") (by kernel_rfl) (by decide +kernel) rfl rfl
theorem u_with_part {a0 a1 a2 a3 : D} : Pu.call prog cst (n + 1) "with_part" false [a0, a1, a2, a3] g = (ex ⟨Pu.call prog cst n, cst⟩ F_with_part.body [some (.sh a0), some (.sh a1), some (.sh a2), some (.sh a3), none] g).bind kF := call_eq (F := F_with_part) (f := "with_part") (by kernel_rfl) (by decide +kernel) rfl rfl
theorem u_differences {a0 a1 : D} : Pu.call prog cst (n + 1) "differences" false [a0, a1] g = (ex ⟨Pu.call prog cst n, cst⟩ F_differences.body [some (.sh a0), some (.sh a1), none, none, none] g).bind kF := call_eq (F := F_differences) (f := "differences") (by kernel_rfl) (by decide +kernel) rfl rfl
theorem u_law_pick {a0 : D} : Pu.call prog cst (n + 1) "_law_pick" true [a0] g = (ex ⟨Pu.call prog cst n, cst⟩ F_law_pick.body [some .gen, some (.sh a0)] g).bind kF := call_eq (F := F_law_pick) (f := "_law_pick") (by kernel_rfl) (by decide +kernel) rfl rfl
theorem u_law_some {a0 a1 : D} : Pu.call prog cst (n + 1) "_law_some" true [a0, a1] g = (ex ⟨Pu.call prog cst n, cst⟩ F_law_some.body [some .gen, some (.sh a0), some (.sh a1), none, none, none, none, none] g).bind kF := call_eq (F := F_law_some) (f := "_law_some") (by kernel_rfl) (by decide +kernel) rfl rfl
theorem u_law_back {a0 : D} : Pu.call prog cst (n + 1) "_law_back" false [a0] g = (ex ⟨Pu.call prog cst n, cst⟩ F_law_back.body [some (.sh a0), none, none, none] g).bind kF := call_eq (F := F_law_back) (f := "_law_back") (by kernel_rfl) (by decide +kernel) rfl rfl
theorem u_law_ways {a0 : D} : Pu.call prog cst (n + 1) "_law_ways" true [a0] g = (ex ⟨Pu.call prog cst n, cst⟩ F_law_ways.body [some .gen, some (.sh a0), none, none, none, none, none, none, none, none] g).bind kF := call_eq (F := F_law_ways) (f := "_law_ways") (by kernel_rfl) (by decide +kernel) rfl rfl
theorem u_law_things {a0 a1 : D} : Pu.call prog cst (n + 1) "_law_things" true [a0, a1] g = (ex ⟨Pu.call prog cst n, cst⟩ F_law_things.body [some .gen, some (.sh a0), some (.sh a1), none, none, none, none, none, none, none] g).bind kF := call_eq (F := F_law_things) (f := "_law_things") (by kernel_rfl) (by decide +kernel) rfl rfl
theorem u_law_single {a0 : D} : Pu.call prog cst (n + 1) "_law_single" true [a0] g = (ex ⟨Pu.call prog cst n, cst⟩ F_law_single.body [some .gen, some (.sh a0), none, none, none] g).bind kF := call_eq (F := F_law_single) (f := "_law_single") (by kernel_rfl) (by decide +kernel) rfl rfl
theorem u_law_condition {a0 a1 : D} : Pu.call prog cst (n + 1) "_law_condition" true [a0, a1] g = (ex ⟨Pu.call prog cst n, cst⟩ F_law_condition.body [some .gen, some (.sh a0), some (.sh a1), none] g).bind kF := call_eq (F := F_law_condition) (f := "_law_condition") (by kernel_rfl) (by decide +kernel) rfl rfl
theorem u_law_effects {a0 : D} : Pu.call prog cst (n + 1) "_law_effects" true [a0] g = (ex ⟨Pu.call prog cst n, cst⟩ F_law_effects.body [some .gen, some (.sh a0), none, none, none, none] g).bind kF := call_eq (F := F_law_effects) (f := "_law_effects") (by kernel_rfl) (by decide +kernel) rfl rfl
theorem u_law_world {a0 a1 : D} : Pu.call prog cst (n + 1) "_law_world" true [a0, a1] g = (ex ⟨Pu.call prog cst n, cst⟩ F_law_world.body [some .gen, some (.sh a0), some (.sh a1), none, none, none, none, none, none, none, none, none, none, none, none, none, none, none, none, none] g).bind kF := call_eq (F := F_law_world) (f := "_law_world") (by kernel_rfl) (by decide +kernel) rfl rfl
theorem u_law_lock {a0 a1 : D} : Pu.call prog cst (n + 1) "_law_lock" false [a0, a1] g = (ex ⟨Pu.call prog cst n, cst⟩ F_law_lock.body [some (.sh a0), some (.sh a1), none] g).bind kF := call_eq (F := F_law_lock) (f := "_law_lock") (by kernel_rfl) (by decide +kernel) rfl rfl
theorem u_law_lamp {a0 a1 : D} : Pu.call prog cst (n + 1) "_law_lamp" false [a0, a1] g = (ex ⟨Pu.call prog cst n, cst⟩ F_law_lamp.body [some (.sh a0), some (.sh a1), none] g).bind kF := call_eq (F := F_law_lamp) (f := "_law_lamp") (by kernel_rfl) (by decide +kernel) rfl rfl
theorem u_law_start {a0 : D} : Pu.call prog cst (n + 1) "_law_start" false [a0] g = (ex ⟨Pu.call prog cst n, cst⟩ F_law_start.body [some (.sh a0), none, none, none, none] g).bind kF := call_eq (F := F_law_start) (f := "_law_start") (by kernel_rfl) (by decide +kernel) rfl rfl
theorem u_law_holds {a0 a1 a2 : D} : Pu.call prog cst (n + 1) "_law_holds" false [a0, a1, a2] g = (ex ⟨Pu.call prog cst n, cst⟩ F_law_holds.body [some (.sh a0), some (.sh a1), some (.sh a2), none, none, none] g).bind kF := call_eq (F := F_law_holds) (f := "_law_holds") (by kernel_rfl) (by decide +kernel) rfl rfl
theorem u_law_exits {a0 a1 : D} : Pu.call prog cst (n + 1) "_law_exits" false [a0, a1] g = (ex ⟨Pu.call prog cst n, cst⟩ F_law_exits.body [some (.sh a0), some (.sh a1), none, none, none, none, none, none, none, none, none, none] g).bind kF := call_eq (F := F_law_exits) (f := "_law_exits") (by kernel_rfl) (by decide +kernel) rfl rfl
theorem u_law_near {a0 a1 a2 : D} : Pu.call prog cst (n + 1) "_law_near" false [a0, a1, a2] g = (ex ⟨Pu.call prog cst n, cst⟩ F_law_near.body [some (.sh a0), some (.sh a1), some (.sh a2), none] g).bind kF := call_eq (F := F_law_near) (f := "_law_near") (by kernel_rfl) (by decide +kernel) rfl rfl
theorem u_law_bright {a0 a1 : D} : Pu.call prog cst (n + 1) "_law_bright" false [a0, a1] g = (ex ⟨Pu.call prog cst n, cst⟩ F_law_bright.body [some (.sh a0), some (.sh a1), none, none] g).bind kF := call_eq (F := F_law_bright) (f := "_law_bright") (by kernel_rfl) (by decide +kernel) rfl rfl
theorem u_law_sees {a0 a1 a2 : D} : Pu.call prog cst (n + 1) "_law_sees" false [a0, a1, a2] g = (ex ⟨Pu.call prog cst n, cst⟩ F_law_sees.body [some (.sh a0), some (.sh a1), some (.sh a2)] g).bind kF := call_eq (F := F_law_sees) (f := "_law_sees") (by kernel_rfl) (by decide +kernel) rfl rfl
theorem u_law_end {a0 a1 : D} : Pu.call prog cst (n + 1) "_law_end" false [a0, a1] g = (ex ⟨Pu.call prog cst n, cst⟩ F_law_end.body [some (.sh a0), some (.sh a1)] g).bind kF := call_eq (F := F_law_end) (f := "_law_end") (by kernel_rfl) (by decide +kernel) rfl rfl
theorem u_law_refused {a0 a1 a2 : D} : Pu.call prog cst (n + 1) "_law_refused" false [a0, a1, a2] g = (ex ⟨Pu.call prog cst n, cst⟩ F_law_refused.body [some (.sh a0), some (.sh a1), some (.sh a2), none, none, none, none] g).bind kF := call_eq (F := F_law_refused) (f := "_law_refused") (by kernel_rfl) (by decide +kernel) rfl rfl
theorem u_law_refused_more {a0 a1 a2 : D} : Pu.call prog cst (n + 1) "_law_refused_more" false [a0, a1, a2] g = (ex ⟨Pu.call prog cst n, cst⟩ F_law_refused_more.body [some (.sh a0), some (.sh a1), some (.sh a2), none, none, none] g).bind kF := call_eq (F := F_law_refused_more) (f := "_law_refused_more") (by kernel_rfl) (by decide +kernel) rfl rfl
theorem u_law_put {a0 a1 a2 : D} : Pu.call prog cst (n + 1) "_law_put" false [a0, a1, a2] g = (ex ⟨Pu.call prog cst n, cst⟩ F_law_put.body [some (.sh a0), some (.sh a1), some (.sh a2)] g).bind kF := call_eq (F := F_law_put) (f := "_law_put") (by kernel_rfl) (by decide +kernel) rfl rfl
theorem u_law_effect {a0 a1 a2 : D} : Pu.call prog cst (n + 1) "_law_effect" false [a0, a1, a2] g = (ex ⟨Pu.call prog cst n, cst⟩ F_law_effect.body [some (.sh a0), some (.sh a1), some (.sh a2), none, none] g).bind kF := call_eq (F := F_law_effect) (f := "_law_effect") (by kernel_rfl) (by decide +kernel) rfl rfl
theorem u_law_done {a0 a1 a2 : D} : Pu.call prog cst (n + 1) "_law_done" false [a0, a1, a2] g = (ex ⟨Pu.call prog cst n, cst⟩ F_law_done.body [some (.sh a0), some (.sh a1), some (.sh a2), none, none, none, none, none, none, none] g).bind kF := call_eq (F := F_law_done) (f := "_law_done") (by kernel_rfl) (by decide +kernel) rfl rfl
theorem u_law_all {a0 : D} : Pu.call prog cst (n + 1) "_law_all" false [a0] g = (ex ⟨Pu.call prog cst n, cst⟩ F_law_all.body [some (.sh a0), none, none, none, none, none, none, none, none, none, none] g).bind kF := call_eq (F := F_law_all) (f := "_law_all") (by kernel_rfl) (by decide +kernel) rfl rfl
theorem u_law_met {a0 : D} : Pu.call prog cst (n + 1) "_law_met" true [a0] g = (ex ⟨Pu.call prog cst n, cst⟩ F_law_met.body [some .gen, some (.sh a0), none, none, none, none] g).bind kF := call_eq (F := F_law_met) (f := "_law_met") (by kernel_rfl) (by decide +kernel) rfl rfl
theorem u_law_sight {a0 a1 : D} : Pu.call prog cst (n + 1) "_law_sight" false [a0, a1] g = (ex ⟨Pu.call prog cst n, cst⟩ F_law_sight.body [some (.sh a0), some (.sh a1), none, none, none, none, none, none, none, none] g).bind kF := call_eq (F := F_law_sight) (f := "_law_sight") (by kernel_rfl) (by decide +kernel) rfl rfl
theorem u_law_parts {a0 a1 a2 : D} : Pu.call prog cst (n + 1) "_law_parts" false [a0, a1, a2] g = (ex ⟨Pu.call prog cst n, cst⟩ F_law_parts.body [some (.sh a0), some (.sh a1), some (.sh a2), none, none, none, none] g).bind kF := call_eq (F := F_law_parts) (f := "_law_parts") (by kernel_rfl) (by decide +kernel) rfl rfl
theorem u_law_bent {a0 a1 : D} : Pu.call prog cst (n + 1) "_law_bent" false [a0, a1] g = (ex ⟨Pu.call prog cst n, cst⟩ F_law_bent.body [some (.sh a0), some (.sh a1), none, none, none] g).bind kF := call_eq (F := F_law_bent) (f := "_law_bent") (by kernel_rfl) (by decide +kernel) rfl rfl
theorem u_take {d : D} : Pu.call prog cst (n + 1) "_law_take" true [d] g = takeV [d] g := rfl
end K04
set_option Elab.async false
set_option maxRecDepth 100000
set_option maxHeartbeats 4000000
set_option linter.all false
/-! M3: data compared; worlds and states read. -/
namespace Pu.Tw
open PySem L2 Pu.St

theorem ofString_inj {a b : String} : Str.ofString a = Str.ofString b ↔ a = b := by
  refine ⟨fun h => ?_, fun h => by rw [h]⟩
  have h1 : (cpsOfBytes 0 0 a.toByteArray.data.toList).toArray = (cpsOfBytes 0 0 b.toByteArray.data.toList).toArray := congrArg Str.cps h
  have h2 := congrArg Array.toList h1
  rw [List.toList_toArray, List.toList_toArray, cpsOfBytes_string, cpsOfBytes_string] at h2
  have h3 : a.toList = b.toList := by
    have inj : ∀ (x y : List Char), x.map Char.toNat = y.map Char.toNat → x = y := by
      intro x
      induction x with
      | nil => intro y h; cases y with
        | nil => rfl
        | cons _ _ => cases h
      | cons c x ih => intro y h; cases y with
        | nil => cases h
        | cons d y =>
          simp only [List.map_cons, List.cons.injEq] at h
          rw [ih y h.2]
          congr 1
          exact Char.ext (UInt32.toNat_inj.mp h.1)
    exact inj _ _ h2
  exact String.toList_inj.mp h3
theorem eqv_str {a b : Str} : PyData.eqv (.str a) (.str b) = decide (a = b) := by
  rw [PyData.eqv, Bool.beq_eq_decide_eq]
theorem eqv_int {a b : Int} : PyData.eqv (.int a) (.int b) = decide (a = b) := by
  rw [PyData.eqv, Bool.beq_eq_decide_eq]
theorem eqD_small {x y : D} (h : x.depth ≤ 100) : eqD x y = some (PyData.eqv x y) := if_pos (.inl h)
theorem eqD_small' {x y : D} (h : y.depth ≤ 100) : eqD x y = some (PyData.eqv x y) := if_pos (.inr h)
theorem eqD_str {a : Str} {y : D} : eqD (.str a) y = some (PyData.eqv (.str a) y) := eqD_small (by simp [PyData.depth])
theorem eqD_str' {a : Str} {y : D} : eqD y (.str a) = some (PyData.eqv y (.str a)) := eqD_small' (by simp [PyData.depth])
theorem eqD_int {a : Int} {y : D} : eqD (.int a) y = some (PyData.eqv (.int a) y) := eqD_small (by simp [PyData.depth])
theorem eqD_int' {a : Int} {y : D} : eqD y (.int a) = some (PyData.eqv y (.int a)) := eqD_small' (by simp [PyData.depth])
theorem Place.depth (p : Place) : p.d.depth ≤ 2 := by cases p <;> simp [Place.d, PyData.depth, PyData.depthAll]
theorem Place.eqv (p q : Place) : PyData.eqv p.d q.d = decide (p = q) := by
  cases p <;> cases q <;> simp [Place.d, PyData.eqv, PyData.eqvAll, ofString_inj] <;> (rw [Bool.eq_iff_iff]; simp; omega)
theorem Place.eqD (p q : Place) : Pu.eqD p.d q.d = some (decide (p = q)) := by
  rw [eqD_small (Nat.le_trans p.depth (by decide)), Place.eqv]
theorem Lock.eqv (p q : Lock) : PyData.eqv p.d q.d = decide (p = q) := by
  cases p <;> cases q <;> simp [Lock.d, PyData.eqv, PyData.eqvAll, ofString_inj] <;> (rw [Bool.eq_iff_iff]; simp; omega)
theorem cm_eq {x y : D} : cmpD .eq x y = eqD x y := rfl
theorem cm_ne {x y : D} : cmpD .ne x y = (eqD x y).map not := rfl
theorem cm_in {x y : D} : cmpD .in_ x y = inD x y := rfl
theorem cm_nin {x y : D} : cmpD .nin x y = (inD x y).map not := rfl
theorem cm_is {x y : D} : cmpD .is_ x y = isD x y := rfl
theorem cm_isn {x y : D} : cmpD .isn x y = (isD x y).map not := rfl
theorem z0 : ((0 : Nat) : Int) = 0 := rfl
theorem z1 : ((1 : Nat) : Int) = 1 := rfl
theorem cm_lt {i j : Int} : cmpD .lt (.int i) (.int j) = some (decide (i < j)) := rfl
theorem cm_le {i j : Int} : cmpD .le (.int i) (.int j) = some (decide (i ≤ j)) := rfl
theorem cm_gt {i j : Int} : cmpD .gt (.int i) (.int j) = some (decide (j < i)) := rfl
theorem cm_ge {i j : Int} : cmpD .ge (.int i) (.int j) = some (decide (j ≤ i)) := rfl
theorem bi_sub {i j : Int} : binD .sub (.int i) (.int j) = some (.sh (.int (i - j))) := rfl
theorem in_tup {x : Str} {ys : List D} : inD (.str x) (.tuple ys) = some (ys.any fun z => PyData.eqv z (.str x)) := by
  unfold inD; dsimp only
  rw [if_pos (Or.inl (by simp [PyData.depth]))]
theorem in_lst {x : Str} {ys : List D} : inD (.str x) (.list ys) = some (ys.any fun z => PyData.eqv z (.str x)) := by
  unfold inD; dsimp only
  rw [if_pos (Or.inl (by simp [PyData.depth]))]
theorem in_tupI {x : Int} {ys : List D} : inD (.int x) (.tuple ys) = some (ys.any fun z => PyData.eqv z (.int x)) := by
  unfold inD; dsimp only
  rw [if_pos (Or.inl (by simp [PyData.depth]))]
theorem Kind.eq_box (k : Kind) : (k.s = Str.ofString "box") = (k = .box) := by cases k <;> simp [Kind.s, ofString_inj]
theorem Kind.eq_lamp (k : Kind) : (k.s = Str.ofString "lamp") = (k = .lamp) := by cases k <;> simp [Kind.s, ofString_inj]
theorem Kind.eq_thing (k : Kind) : (k.s = Str.ofString "thing") = (k = .thing) := by cases k <;> simp [Kind.s, ofString_inj]
theorem Kind.eq_fixed (k : Kind) : (k.s = Str.ofString "fixed") = (k = .fixed) := by cases k <;> simp [Kind.s, ofString_inj]
theorem LS.eq (a b : LS) : (a.s = b.s) = (a = b) := by cases a <;> cases b <;> simp [LS.s, ofString_inj]
theorem LS.eq_open (a : LS) : (a.s = Str.ofString "open") = (a = .open_) := LS.eq a .open_
theorem LS.eq_closed (a : LS) : (a.s = Str.ofString "closed") = (a = .closed) := LS.eq a .closed
theorem LS.eq_locked (a : LS) : (a.s = Str.ofString "locked") = (a = .locked) := LS.eq a .locked
theorem lit_eq (a : Bool) : (litS a = Str.ofString "lit") = (a = true) := by cases a <;> simp [litS, ofString_inj]
theorem on_eq (a : Bool) : (onS a = Str.ofString "on") = (a = true) := by cases a <;> simp [onS, ofString_inj]
/-! ### items -/
section
variable (W : World) (S : State) (t : Thing) (x : Door) (r : Rule)
theorem W1 : ixD W.d (.int 1) = some (.tuple (W.rooms.map roomD)) := rfl
theorem W2 : ixD W.d (.int 2) = some (.tuple (W.ways.map wayD)) := rfl
theorem W3 : ixD W.d (.int 3) = some (.tuple (W.doors.map Door.d)) := rfl
theorem W4 : ixD W.d (.int 4) = some (.tuple (W.things.map Thing.d)) := rfl
theorem W5 : ixD W.d (.int 5) = some (.tuple (W.keys.map keyDD)) := rfl
theorem W6 : ixD W.d (.int 6) = some W.marksD := rfl
theorem W7 : ixD W.d (.int 7) = some W.countsD := rfl
theorem W8 : ixD W.d (.int 8) = some (.tuple (W.deeds.map Rule.d)) := rfl
theorem W9 : ixD W.d (.int 9) = some (.tuple (W.afters.map afterD)) := rfl
theorem W10 : ixD W.d (.int 10) = some (.int W.start) := rfl
theorem W11 : ixD W.d (.int 11) = some W.win.d := rfl
theorem W12 : ixD W.d (.int 12) = some W.lose.d := rfl
theorem S0 : ixD S.d (.int 0) = some (.str "state") := rfl
theorem S1 : ixD S.d (.int 1) = some (.int S.room) := rfl
theorem S2 : ixD S.d (.int 2) = some (.tuple (S.places.map Place.d)) := rfl
theorem S3 : ixD S.d (.int 3) = some (.tuple (S.locks.map fun l => .str l.s)) := rfl
theorem S4 : ixD S.d (.int 4) = some (.tuple (S.lits.map fun b => .str (litS b))) := rfl
theorem S5 : ixD S.d (.int 5) = some (.tuple [.str (onS S.mark)]) := rfl
theorem S6 : ixD S.d (.int 6) = some (.tuple [.int S.count]) := rfl
theorem T2 : ixD t.d (.int 2) = some (.str t.kind.s) := rfl
theorem T3 : ixD t.d (.int 3) = some t.place.d := rfl
theorem T4 : ixD t.d (.int 4) = some t.ex := rfl
theorem D1 : ixD x.d (.int 2) = some (.int x.one) := rfl
theorem D3 : ixD x.d (.int 3) = some (.str x.told) := rfl
theorem D4 : ixD x.d (.int 4) = some (.int x.other) := rfl
theorem D5 : ixD x.d (.int 5) = some (.str x.st.s) := rfl
end
theorem ix_map {α : Type} (f : α → D) (xs : List α) (k : Nat) : ixD (.tuple (xs.map f)) (.int (k : Nat)) = (xs[k]?).map f := by
  show atI _ _ = _
  rw [at_nat, List.getElem?_map]
theorem ix_mapL {α : Type} (f : α → D) (xs : List α) (k : Nat) : ixD (.list (xs.map f)) (.int (k : Nat)) = (xs[k]?).map f := by
  show atI _ _ = _
  rw [at_nat, List.getElem?_map]
theorem ix_0 {x : D} {xs : List D} : ixD (.tuple (x :: xs)) (.int 0) = some x := by
  show atI _ ((0 : Nat) : Int) = _
  rw [at_nat]
  rfl
theorem ix_1 {x y : D} {xs : List D} : ixD (.tuple (x :: y :: xs)) (.int 1) = some y := by
  show atI _ ((1 : Nat) : Int) = _
  rw [at_nat]
  rfl
theorem ix_2 {x y z : D} {xs : List D} : ixD (.tuple (x :: y :: z :: xs)) (.int 2) = some z := by
  show atI _ ((2 : Nat) : Int) = _
  rw [at_nat]
  rfl
theorem len_tup {xs : List D} : bfD .len [.tuple xs] = some (.sh (.int xs.length)) := rfl
theorem len_lst {xs : List D} : bfD .len [.list xs] = some (.sh (.int xs.length)) := rfl
theorem bi_add {i j : Int} : binD .add (.int i) (.int j) = some (.sh (.int (i + j))) := rfl

def World.boxes (W : World) (n : Nat) : Nat := ((List.range n).filter fun k => decide ((W.things[k]?).map Thing.kind = some .box)).length
def lockNo (W : World) : Lock → Nat
  | .door k => k
  | .box b => W.doors.length + W.boxes b
open K04 in
theorem c_lock_number {W : World} {l : Lock} {g : G} {n : Nat} (h : ∀ b, l = .box b → b ≤ W.things.length ∧ b ≤ 1000) : call prog cst (n + 1) "lock_number" false [W.d, l.d] g = some (.sh (.int (lockNo W l)), g) := by
  cases l with
  | door k => kernel_rfl
  | box b =>
    obtain ⟨h1, h2⟩ := h b rfl
    rw [u_lock_number]
    simp only [F_lock_number, ev_nil, ev_cons, kC1_eq, kC0_eq, kC2_eq, ev_nm, nmV_eq, ev_int, ev_str, ev_bl, ev_non, ev_gl, ev_tu, ev_li, kLi_eq, kB1_eq, kB0_eq, kB2_eq, ev_bi, ev_cm, fBi_eq, fCm_eq, ev_ch, fCh_eq, kCh_t, kCh_f, ev_neg, kNeg_eq, ev_an, ev_or, kAn_t, kAn_f, kOr_t, kOr_f, ev_no, kNo_eq, evT_eq, kT_eq, kT_ow, ev_ie, kIe_t, kIe_f, ev_ix, kIx_eq, kIx2_sh, kIx2_bw, kIx2_ow, kIx2_od, kIx2_bd, ev_sl, kSl_eq, kSl0_eq, kSl1_eq, kSl2_eq, pO_nil, pO_int, pO_nm, pO_bi, pO_ix, pO_bf, kPO_eq, ev_ca, kCa_n, evR_nil, evR_cons, kR1_eq, kR0_eq, ev_bf, kBf_eq, ev_me, kMe_eq, kMe2_eq, ev_isi, kIsi_sh, ev_r1, ev_l1, ev_r2, kR2r_eq, ex_nop, ex_seq, kS_nx, kS_rt, kS_br, kS_ct, ex_as, kAs_sh, kAs_ow, kAs_od, ex_par, evP_nil, evP_cons, kP1_eq, kP0_eq, ex_up, ex_if, kIf_t, kIf_f, ex_re, kRe_sh, kRe_ow, kRe_bw, ex_ap, ex_ex, ex_fz, fzV_ow, fzV_sh, kAp_sh, kAp_ow, apV_ow, kEx_ow, kEx_bw, exV_ow, ex_fo, ex_rn, share_sh, share_ow, rd_sh, rd_ow, rd_bw, bo_sh, bo_ow, bo_od, keep_sh, keep_ow, lst_ow, lst_bw, kF_rt, kF_nx, List.getElem?_cons_zero, List.getElem?_cons_succ, Option.bind_some, Option.map_some, List.set_cons_zero, List.set_cons_succ, String.reduceEq, decide_false, decide_true, Bool.not_true, Bool.not_false, cm_eq, cm_ne, cm_in, cm_nin, cm_is, cm_isn, eqD_str, eqD_str', eqD_int, eqD_int', eqv_str, eqv_int, ofString_inj, in_tup, in_lst, ix_0, ix_1, ix_2, ix_map, ix_mapL, W1, W2, W3, W4, W5, W6, W7, W8, W9, W10, W11, W12, S0, S1, S2, S3, S4, S5, S6, T2, T3, T4, D1, D3, D4, D5, len_tup, len_lst, bi_add, Kind.eq_box, Kind.eq_lamp, Kind.eq_thing, Kind.eq_fixed, LS.eq, LS.eq_open, LS.eq_closed, LS.eq_locked, lit_eq, on_eq, wipeE, Tg.slots, bindTg, Place.eqD, Place.eqv, Lock.eqv, List.any_cons, List.any_nil, z0, z1, cm_lt, cm_le, cm_gt, cm_ge, bi_sub, Int.natCast_inj, Lock.d, (by decide +kernel : (("box" : Str) = "door") = False)]
    rw [ev_lc (α := Nat) (fun k => PyData.int k) (fun k => decide ((W.things[k]?).map Thing.kind = some .box)) (fun k => PyData.int k) (xs := List.range b) (vi := .ow ((List.range b).map fun (k : Nat) => PyData.int k)) ?_ rfl ?_]
    · simp only [ev_nil, ev_cons, kC1_eq, kC0_eq, kC2_eq, ev_nm, nmV_eq, ev_int, ev_str, ev_bl, ev_non, ev_gl, ev_tu, ev_li, kLi_eq, kB1_eq, kB0_eq, kB2_eq, ev_bi, ev_cm, fBi_eq, fCm_eq, ev_ch, fCh_eq, kCh_t, kCh_f, ev_neg, kNeg_eq, ev_an, ev_or, kAn_t, kAn_f, kOr_t, kOr_f, ev_no, kNo_eq, evT_eq, kT_eq, kT_ow, ev_ie, kIe_t, kIe_f, ev_ix, kIx_eq, kIx2_sh, kIx2_bw, kIx2_ow, kIx2_od, kIx2_bd, ev_sl, kSl_eq, kSl0_eq, kSl1_eq, kSl2_eq, pO_nil, pO_int, pO_nm, pO_bi, pO_ix, pO_bf, kPO_eq, ev_ca, kCa_n, evR_nil, evR_cons, kR1_eq, kR0_eq, ev_bf, kBf_eq, ev_me, kMe_eq, kMe2_eq, ev_isi, kIsi_sh, ev_r1, ev_l1, ev_r2, kR2r_eq, ex_nop, ex_seq, kS_nx, kS_rt, kS_br, kS_ct, ex_as, kAs_sh, kAs_ow, kAs_od, ex_par, evP_nil, evP_cons, kP1_eq, kP0_eq, ex_up, ex_if, kIf_t, kIf_f, ex_re, kRe_sh, kRe_ow, kRe_bw, ex_ap, ex_ex, ex_fz, fzV_ow, fzV_sh, kAp_sh, kAp_ow, apV_ow, kEx_ow, kEx_bw, exV_ow, ex_fo, ex_rn, share_sh, share_ow, rd_sh, rd_ow, rd_bw, bo_sh, bo_ow, bo_od, keep_sh, keep_ow, lst_ow, lst_bw, kF_rt, kF_nx, List.getElem?_cons_zero, List.getElem?_cons_succ, Option.bind_some, Option.map_some, List.set_cons_zero, List.set_cons_succ, String.reduceEq, decide_false, decide_true, Bool.not_true, Bool.not_false, cm_eq, cm_ne, cm_in, cm_nin, cm_is, cm_isn, eqD_str, eqD_str', eqD_int, eqD_int', eqv_str, eqv_int, ofString_inj, in_tup, in_lst, ix_0, ix_1, ix_2, ix_map, ix_mapL, W1, W2, W3, W4, W5, W6, W7, W8, W9, W10, W11, W12, S0, S1, S2, S3, S4, S5, S6, T2, T3, T4, D1, D3, D4, D5, len_tup, len_lst, bi_add, Kind.eq_box, Kind.eq_lamp, Kind.eq_thing, Kind.eq_fixed, LS.eq, LS.eq_open, LS.eq_closed, LS.eq_locked, lit_eq, on_eq, wipeE, Tg.slots, bindTg, Place.eqD, Place.eqv, Lock.eqv, List.any_cons, List.any_nil, z0, z1, cm_lt, cm_le, cm_gt, cm_ge, bi_sub, Int.natCast_inj, List.length_map, lockNo, World.boxes, Int.natCast_add]
    · simp only [ev_nil, ev_cons, kC1_eq, kC0_eq, kC2_eq, ev_nm, nmV_eq, ev_int, ev_str, ev_bl, ev_non, ev_gl, ev_tu, ev_li, kLi_eq, kB1_eq, kB0_eq, kB2_eq, ev_bi, ev_cm, fBi_eq, fCm_eq, ev_ch, fCh_eq, kCh_t, kCh_f, ev_neg, kNeg_eq, ev_an, ev_or, kAn_t, kAn_f, kOr_t, kOr_f, ev_no, kNo_eq, evT_eq, kT_eq, kT_ow, ev_ie, kIe_t, kIe_f, ev_ix, kIx_eq, kIx2_sh, kIx2_bw, kIx2_ow, kIx2_od, kIx2_bd, ev_sl, kSl_eq, kSl0_eq, kSl1_eq, kSl2_eq, pO_nil, pO_int, pO_nm, pO_bi, pO_ix, pO_bf, kPO_eq, ev_ca, kCa_n, evR_nil, evR_cons, kR1_eq, kR0_eq, ev_bf, kBf_eq, ev_me, kMe_eq, kMe2_eq, ev_isi, kIsi_sh, ev_r1, ev_l1, ev_r2, kR2r_eq, ex_nop, ex_seq, kS_nx, kS_rt, kS_br, kS_ct, ex_as, kAs_sh, kAs_ow, kAs_od, ex_par, evP_nil, evP_cons, kP1_eq, kP0_eq, ex_up, ex_if, kIf_t, kIf_f, ex_re, kRe_sh, kRe_ow, kRe_bw, ex_ap, ex_ex, ex_fz, fzV_ow, fzV_sh, kAp_sh, kAp_ow, apV_ow, kEx_ow, kEx_bw, exV_ow, ex_fo, ex_rn, share_sh, share_ow, rd_sh, rd_ow, rd_bw, bo_sh, bo_ow, bo_od, keep_sh, keep_ow, lst_ow, lst_bw, kF_rt, kF_nx, List.getElem?_cons_zero, List.getElem?_cons_succ, Option.bind_some, Option.map_some, List.set_cons_zero, List.set_cons_succ, String.reduceEq, decide_false, decide_true, Bool.not_true, Bool.not_false, cm_eq, cm_ne, cm_in, cm_nin, cm_is, cm_isn, eqD_str, eqD_str', eqD_int, eqD_int', eqv_str, eqv_int, ofString_inj, in_tup, in_lst, ix_0, ix_1, ix_2, ix_map, ix_mapL, W1, W2, W3, W4, W5, W6, W7, W8, W9, W10, W11, W12, S0, S1, S2, S3, S4, S5, S6, T2, T3, T4, D1, D3, D4, D5, len_tup, len_lst, bi_add, Kind.eq_box, Kind.eq_lamp, Kind.eq_thing, Kind.eq_fixed, LS.eq, LS.eq_open, LS.eq_closed, LS.eq_locked, lit_eq, on_eq, wipeE, Tg.slots, bindTg, Place.eqD, Place.eqv, Lock.eqv, List.any_cons, List.any_nil, z0, z1, cm_lt, cm_le, cm_gt, cm_ge, bi_sub, Int.natCast_inj, kR1r_eq (show b ≤ 16777216 by omega)]
    · intro k hk
      have hk : k < W.things.length := by have := List.mem_range.mp hk; omega
      simp only [ev_nil, ev_cons, kC1_eq, kC0_eq, kC2_eq, ev_nm, nmV_eq, ev_int, ev_str, ev_bl, ev_non, ev_gl, ev_tu, ev_li, kLi_eq, kB1_eq, kB0_eq, kB2_eq, ev_bi, ev_cm, fBi_eq, fCm_eq, ev_ch, fCh_eq, kCh_t, kCh_f, ev_neg, kNeg_eq, ev_an, ev_or, kAn_t, kAn_f, kOr_t, kOr_f, ev_no, kNo_eq, evT_eq, kT_eq, kT_ow, ev_ie, kIe_t, kIe_f, ev_ix, kIx_eq, kIx2_sh, kIx2_bw, kIx2_ow, kIx2_od, kIx2_bd, ev_sl, kSl_eq, kSl0_eq, kSl1_eq, kSl2_eq, pO_nil, pO_int, pO_nm, pO_bi, pO_ix, pO_bf, kPO_eq, ev_ca, kCa_n, evR_nil, evR_cons, kR1_eq, kR0_eq, ev_bf, kBf_eq, ev_me, kMe_eq, kMe2_eq, ev_isi, kIsi_sh, ev_r1, ev_l1, ev_r2, kR2r_eq, ex_nop, ex_seq, kS_nx, kS_rt, kS_br, kS_ct, ex_as, kAs_sh, kAs_ow, kAs_od, ex_par, evP_nil, evP_cons, kP1_eq, kP0_eq, ex_up, ex_if, kIf_t, kIf_f, ex_re, kRe_sh, kRe_ow, kRe_bw, ex_ap, ex_ex, ex_fz, fzV_ow, fzV_sh, kAp_sh, kAp_ow, apV_ow, kEx_ow, kEx_bw, exV_ow, ex_fo, ex_rn, share_sh, share_ow, rd_sh, rd_ow, rd_bw, bo_sh, bo_ow, bo_od, keep_sh, keep_ow, lst_ow, lst_bw, kF_rt, kF_nx, List.getElem?_cons_zero, List.getElem?_cons_succ, Option.bind_some, Option.map_some, List.set_cons_zero, List.set_cons_succ, String.reduceEq, decide_false, decide_true, Bool.not_true, Bool.not_false, cm_eq, cm_ne, cm_in, cm_nin, cm_is, cm_isn, eqD_str, eqD_str', eqD_int, eqD_int', eqv_str, eqv_int, ofString_inj, in_tup, in_lst, ix_0, ix_1, ix_2, ix_map, ix_mapL, W1, W2, W3, W4, W5, W6, W7, W8, W9, W10, W11, W12, S0, S1, S2, S3, S4, S5, S6, T2, T3, T4, D1, D3, D4, D5, len_tup, len_lst, bi_add, Kind.eq_box, Kind.eq_lamp, Kind.eq_thing, Kind.eq_fixed, LS.eq, LS.eq_open, LS.eq_closed, LS.eq_locked, lit_eq, on_eq, wipeE, Tg.slots, bindTg, Place.eqD, Place.eqv, Lock.eqv, List.any_cons, List.any_nil, z0, z1, cm_lt, cm_le, cm_gt, cm_ge, bi_sub, Int.natCast_inj, List.getElem?_eq_getElem hk]
      refine ⟨_, rfl, ?_, fun _ => ⟨_, rfl, rfl⟩⟩
      simp only [ev_nil, ev_cons, kC1_eq, kC0_eq, kC2_eq, ev_nm, nmV_eq, ev_int, ev_str, ev_bl, ev_non, ev_gl, ev_tu, ev_li, kLi_eq, kB1_eq, kB0_eq, kB2_eq, ev_bi, ev_cm, fBi_eq, fCm_eq, ev_ch, fCh_eq, kCh_t, kCh_f, ev_neg, kNeg_eq, ev_an, ev_or, kAn_t, kAn_f, kOr_t, kOr_f, ev_no, kNo_eq, evT_eq, kT_eq, kT_ow, ev_ie, kIe_t, kIe_f, ev_ix, kIx_eq, kIx2_sh, kIx2_bw, kIx2_ow, kIx2_od, kIx2_bd, ev_sl, kSl_eq, kSl0_eq, kSl1_eq, kSl2_eq, pO_nil, pO_int, pO_nm, pO_bi, pO_ix, pO_bf, kPO_eq, ev_ca, kCa_n, evR_nil, evR_cons, kR1_eq, kR0_eq, ev_bf, kBf_eq, ev_me, kMe_eq, kMe2_eq, ev_isi, kIsi_sh, ev_r1, ev_l1, ev_r2, kR2r_eq, ex_nop, ex_seq, kS_nx, kS_rt, kS_br, kS_ct, ex_as, kAs_sh, kAs_ow, kAs_od, ex_par, evP_nil, evP_cons, kP1_eq, kP0_eq, ex_up, ex_if, kIf_t, kIf_f, ex_re, kRe_sh, kRe_ow, kRe_bw, ex_ap, ex_ex, ex_fz, fzV_ow, fzV_sh, kAp_sh, kAp_ow, apV_ow, kEx_ow, kEx_bw, exV_ow, ex_fo, ex_rn, share_sh, share_ow, rd_sh, rd_ow, rd_bw, bo_sh, bo_ow, bo_od, keep_sh, keep_ow, lst_ow, lst_bw, kF_rt, kF_nx, List.getElem?_cons_zero, List.getElem?_cons_succ, Option.bind_some, Option.map_some, List.set_cons_zero, List.set_cons_succ, String.reduceEq, decide_false, decide_true, Bool.not_true, Bool.not_false, cm_eq, cm_ne, cm_in, cm_nin, cm_is, cm_isn, eqD_str, eqD_str', eqD_int, eqD_int', eqv_str, eqv_int, ofString_inj, in_tup, in_lst, ix_0, ix_1, ix_2, ix_map, ix_mapL, W1, W2, W3, W4, W5, W6, W7, W8, W9, W10, W11, W12, S0, S1, S2, S3, S4, S5, S6, T2, T3, T4, D1, D3, D4, D5, len_tup, len_lst, bi_add, Kind.eq_box, Kind.eq_lamp, Kind.eq_thing, Kind.eq_fixed, LS.eq, LS.eq_open, LS.eq_closed, LS.eq_locked, lit_eq, on_eq, wipeE, Tg.slots, bindTg, Place.eqD, Place.eqv, Lock.eqv, List.any_cons, List.any_nil, z0, z1, cm_lt, cm_le, cm_gt, cm_ge, bi_sub, Int.natCast_inj, List.getElem?_eq_getElem hk]
      simp
end Pu.Tw
set_option Elab.async false
set_option maxRecDepth 100000
set_option maxHeartbeats 4000000
set_option linter.all false
/-! M4: what holds. -/
namespace Pu.Tw
open PySem L2 Pu.St
local macro_rules | `(tactic| simp_arith [$ls,*] $[$loc]?) => `(tactic| simp only [ev_nil, ev_cons, kC1_eq, kC0_eq, kC2_eq, ev_nm, nmV_eq, ev_int, ev_str, ev_bl, ev_non, ev_gl, ev_tu, ev_li, kLi_eq, kB1_eq, kB0_eq, kB2_eq, ev_bi, ev_cm, fBi_eq, fCm_eq, ev_ch, fCh_eq, kCh_t, kCh_f, ev_neg, kNeg_eq, ev_an, ev_or, kAn_t, kAn_f, kOr_t, kOr_f, ev_no, kNo_eq, evT_eq, kT_eq, kT_ow, ev_ie, kIe_t, kIe_f, ev_ix, kIx_eq, kIx2_sh, kIx2_bw, kIx2_ow, kIx2_od, kIx2_bd, ev_sl, kSl_eq, kSl0_eq, kSl1_eq, kSl2_eq, pO_nil, pO_int, pO_nm, pO_bi, pO_ix, pO_bf, kPO_eq, ev_ca, kCa_n, evR_nil, evR_cons, kR1_eq, kR0_eq, ev_bf, kBf_eq, ev_me, kMe_eq, kMe2_eq, ev_isi, kIsi_sh, ev_r1, ev_l1, ev_r2, kR2r_eq, ex_nop, ex_seq, kS_nx, kS_rt, kS_br, kS_ct, ex_as, kAs_sh, kAs_ow, kAs_od, ex_par, evP_nil, evP_cons, kP1_eq, kP0_eq, ex_up, ex_if, kIf_t, kIf_f, ex_re, kRe_sh, kRe_ow, kRe_bw, ex_ap, ex_ex, ex_fz, fzV_ow, fzV_sh, kAp_sh, kAp_ow, apV_ow, kEx_ow, kEx_bw, exV_ow, ex_fo, ex_rn, share_sh, share_ow, rd_sh, rd_ow, rd_bw, bo_sh, bo_ow, bo_od, keep_sh, keep_ow, lst_ow, lst_bw, kF_rt, kF_nx, List.getElem?_cons_zero, List.getElem?_cons_succ, Option.bind_some, Option.map_some, List.set_cons_zero, List.set_cons_succ, String.reduceEq, decide_false, decide_true, Bool.not_true, Bool.not_false, cm_eq, cm_ne, cm_in, cm_nin, cm_is, cm_isn, eqD_str, eqD_str', eqD_int, eqD_int', eqv_str, eqv_int, ofString_inj, in_tup, in_lst, ix_0, ix_1, ix_2, ix_map, ix_mapL, W1, W2, W3, W4, W5, W6, W7, W8, W9, W10, W11, W12, S0, S1, S2, S3, S4, S5, S6, T2, T3, T4, D1, D3, D4, D5, len_tup, len_lst, bi_add, Kind.eq_box, Kind.eq_lamp, Kind.eq_thing, Kind.eq_fixed, LS.eq, LS.eq_open, LS.eq_closed, LS.eq_locked, lit_eq, on_eq, wipeE, Tg.slots, bindTg, Place.eqD, Place.eqv, Lock.eqv, List.any_cons, List.any_nil, z0, z1, cm_lt, cm_le, cm_gt, cm_ge, bi_sub, Int.natCast_inj, $ls,*] $[$loc]?)

def kindAt (W : World) (k : Nat) : Option Kind := (W.things[k]?).map Thing.kind
def lampNo (W : World) (n : Nat) : Nat := ((List.range n).filter fun k => decide (kindAt W k = some .lamp)).length
def PlaceOk (W : World) : Place → Prop
  | .held => True
  | .gone => True
  | .room r => r < W.rooms.length
  | .box b => kindAt W b = some .box
structure SOk (W : World) (S : State) : Prop where
  room : S.room < W.rooms.length
  np : S.places.length = W.things.length
  pl : ∀ (k : Nat) (p : Place), S.places[k]? = some p → PlaceOk W p
  fx : ∀ (k : Nat) (p : Place), S.places[k]? = some p → kindAt W k = some .box ∨ kindAt W k = some .fixed → ∃ r, p = .room r
  nl : S.locks.length = W.doors.length + W.boxes W.things.length
  nt : S.lits.length = lampNo W W.things.length
  cnt : S.count ≤ 99
def LockOk (W : World) : Lock → Prop
  | .door k => k < W.doors.length
  | .box b => kindAt W b = some .box
def CondOk (W : World) : Cond → Prop
  | .always => True
  | .never => True
  | .not c => CondOk W c
  | .and a b => CondOk W a ∧ CondOk W b
  | .or a b => CondOk W a ∧ CondOk W b
  | .at_ _ => True
  | .has t => t < W.things.length
  | .lies t _ => t < W.things.length
  | .open_ l => LockOk W l
  | .lit t => kindAt W t = some .lamp
  | .mark k => k = 0
  | .lt k _ => k = 0
def Cond.ht : Cond → Nat
  | .not c => c.ht + 1
  | .and a b => max a.ht b.ht + 1
  | .or a b => max a.ht b.ht + 1
  | _ => 0
def holdsP (W : World) (S : State) : Cond → Bool
  | .always => true
  | .never => false
  | .not c => !holdsP W S c
  | .and a b => holdsP W S a && holdsP W S b
  | .or a b => holdsP W S a || holdsP W S b
  | .at_ r => decide (S.room = r)
  | .has t => decide (S.places[t]? = some .held)
  | .lies t p => decide (S.places[t]? = some p)
  | .open_ l => decide (S.locks[lockNo W l]? = some .open_)
  | .lit t => decide (S.lits[lampNo W t]? = some true)
  | .mark _ => S.mark
  | .lt _ n => decide ((S.count : Int) < n)
section
variable {W : World} {S : State}
theorem kind_lt {k : Nat} {x : Kind} (h : kindAt W k = some x) : k < W.things.length := by
  unfold kindAt at h
  cases e : W.things[k]? with
  | none => rw [e] at h; cases h
  | some t =>
    rcases List.getElem?_eq_some_iff.mp e with ⟨z, _⟩
    exact z
/-- as many lie ahead of one as there are, less than all -/
theorem filt_lt {p : Nat → Bool} {k n : Nat} (hk : k < n) (hp : p k = true) : ((List.range k).filter p).length < ((List.range n).filter p).length := by
  have e : List.range n = List.range k ++ (List.range (n - k)).map (k + ·) := by
    rw [← List.range_add]
    congr 1
    omega
  rw [e, List.filter_append, List.length_append]
  have : 0 < ((List.map (k + ·) (List.range (n - k))).filter p).length := by
    apply List.length_pos_of_mem (a := k)
    rw [List.mem_filter]
    exact ⟨List.mem_map.mpr ⟨0, List.mem_range.mpr (by omega), rfl⟩, hp⟩
  omega
theorem lock_lt (o : SOk W S) {l : Lock} (h : LockOk W l) : lockNo W l < S.locks.length := by
  rw [o.nl]
  cases l with
  | door k => exact Nat.lt_of_lt_of_le (show k < W.doors.length from h) (Nat.le_add_right _ _)
  | box b =>
    have h : kindAt W b = some .box := h
    have := filt_lt (p := fun k => decide ((W.things[k]?).map Thing.kind = some .box)) (kind_lt h) (by simpa [kindAt] using h)
    exact Nat.add_lt_add_left this _
theorem lamp_lt (o : SOk W S) {t : Nat} (h : kindAt W t = some .lamp) : lampNo W t < S.lits.length := by
  rw [o.nt]
  exact filt_lt (p := fun k => decide (kindAt W k = some .lamp)) (kind_lt h) (by simpa using h)
open K04 in
theorem c_lamp_number {t : Nat} {g : G} {n : Nat} (h : t ≤ W.things.length) (h2 : W.things.length ≤ 1000) : call prog cst (n + 1) "lamp_number" false [W.d, .int t] g = some (.sh (.int (lampNo W t)), g) := by
  rw [u_lamp_number]
  simp_arith [F_lamp_number]
  rw [ev_lc (α := Nat) (fun k => PyData.int k) (fun k => decide (kindAt W k = some .lamp)) (fun k => PyData.int k) (xs := List.range t) (vi := .ow ((List.range t).map fun (k : Nat) => PyData.int k)) ?_ rfl ?_]
  · simp_arith [List.length_map, lampNo]
  · simp_arith [kR1r_eq (show t ≤ 16777216 by omega)]
  · intro k hk
    have hk : k < W.things.length := by have := List.mem_range.mp hk; omega
    refine ⟨_, rfl, ?_, fun _ => ⟨_, rfl, rfl⟩⟩
    simp_arith [List.getElem?_eq_getElem hk]
    simp [kindAt, hk]
open K04 in
theorem c_law_lamp {t : Nat} {g : G} {n : Nat} (h : t ≤ W.things.length) (h2 : W.things.length ≤ 1000) : call prog cst (n + 1) "_law_lamp" false [W.d, .int t] g = some (.sh (.int (lampNo W t)), g) := by
  rw [u_law_lamp]
  simp_arith [F_law_lamp]
  rw [ev_lc (α := Nat) (fun k => PyData.int k) (fun k => decide (kindAt W k = some .lamp)) (fun k => PyData.int k) (xs := List.range t) (vi := .ow ((List.range t).map fun (k : Nat) => PyData.int k)) ?_ rfl ?_]
  · simp_arith [List.length_map, lampNo]
  · simp_arith [kR1r_eq (show t ≤ 16777216 by omega)]
  · intro k hk
    have hk : k < W.things.length := by have := List.mem_range.mp hk; omega
    refine ⟨_, rfl, ?_, fun _ => ⟨_, rfl, rfl⟩⟩
    simp_arith [List.getElem?_eq_getElem hk]
    simp [kindAt, hk]
open K04 in
theorem c_law_lock {l : Lock} {g : G} {n : Nat} (h : ∀ b, l = .box b → b ≤ W.things.length ∧ b ≤ 1000) : call prog cst (n + 1) "_law_lock" false [W.d, l.d] g = some (.sh (.int (lockNo W l)), g) := by
  cases l with
  | door k => kernel_rfl
  | box b =>
    obtain ⟨h1, h2⟩ := h b rfl
    rw [u_law_lock]
    simp_arith [F_law_lock, Lock.d]
    rw [ev_lc (α := Nat) (fun k => PyData.int k) (fun k => decide ((W.things[k]?).map Thing.kind = some .box)) (fun k => PyData.int k) (xs := List.range b) (vi := .ow ((List.range b).map fun (k : Nat) => PyData.int k)) ?_ rfl ?_]
    · simp_arith [List.length_map, lockNo, World.boxes, Int.natCast_add]
    · simp_arith [kR1r_eq (show b ≤ 16777216 by omega)]
    · intro k hk
      have hk : k < W.things.length := by have := List.mem_range.mp hk; omega
      refine ⟨_, rfl, ?_, fun _ => ⟨_, rfl, rfl⟩⟩
      simp_arith [List.getElem?_eq_getElem hk]
      simp
theorem lock_hyp (h2 : W.things.length ≤ 1000) {l : Lock} (h : LockOk W l) : ∀ b, l = .box b → b ≤ W.things.length ∧ b ≤ 1000 := by
  rintro b rfl
  have := kind_lt (show kindAt W b = some .box from h)
  omega
theorem get_some {α : Type} {xs : List α} {k : Nat} (h : k < xs.length) : ∃ x, xs[k]? = some x := ⟨_, List.getElem?_eq_getElem h⟩
open K04 in
theorem c_single {c : Cond} {g : G} {n : Nat} (o : SOk W S) (h2 : W.things.length ≤ 1000) (hc : CondOk W c) (ht : c.ht = 0) (hn : c ≠ .always ∧ c ≠ .never) : call prog cst (n + 2) "single" false [W.d, S.d, c.d] g = some (.sh (.bool (holdsP W S c)), g) := by
  rw [u_single]
  cases c <;> try (cases ht; done)
  case always => exact absurd rfl hn.1
  case never => exact absurd rfl hn.2
  case at_ r =>
    simp_arith [F_single, Cond.d, holdsP]
  case has t =>
    obtain ⟨p, hp⟩ := get_some (show t < S.places.length by rw [o.np]; exact hc)
    simp_arith [F_single, Cond.d, holdsP, hp, Option.some.injEq, show PyData.tuple [.str (Str.ofString "held")] = Place.held.d from rfl]
  case lies t q =>
    obtain ⟨p, hp⟩ := get_some (show t < S.places.length by rw [o.np]; exact hc)
    simp_arith [F_single, Cond.d, holdsP, hp, Option.some.injEq]
  case open_ l =>
    obtain ⟨x, hx⟩ := get_some (lock_lt o hc)
    simp_arith [F_single, Cond.d, holdsP, c_lock_number (lock_hyp h2 hc), hx, Option.some.injEq]
  case lit t =>
    obtain ⟨x, hx⟩ := get_some (lamp_lt o hc)
    simp_arith [F_single, Cond.d, holdsP, c_lamp_number (Nat.le_of_lt (kind_lt hc)) h2, hx, Option.some.injEq]
  case mark k =>
    cases (show k = 0 from hc)
    simp_arith [F_single, Cond.d, holdsP, Bool.decide_eq_true]
  case lt k m =>
    cases (show k = 0 from hc)
    simp_arith [F_single, Cond.d, holdsP]
open K04 in
theorem c_holds (o : SOk W S) (h2 : W.things.length ≤ 1000) : ∀ (c : Cond) (g : G) (n : Nat), CondOk W c → c.ht ≤ n → call prog cst (n + 3) "holds" false [W.d, S.d, c.d] g = some (.sh (.bool (holdsP W S c)), g) := by
  intro c
  induction c with
  | always => intro g n _ _; kernel_rfl
  | never => intro g n _ _; kernel_rfl
  | not c ih =>
    intro g n hc hn
    obtain ⟨m, rfl⟩ : ∃ m, n = m + 1 := ⟨n - 1, by have : c.ht + 1 ≤ n := hn; omega⟩
    have h1 := ih g m hc (by have : c.ht + 1 ≤ m + 1 := hn; omega)
    rw [u_holds]
    simp_arith [F_holds, Cond.d, h1, holdsP, Bool.false_or, Bool.or_false]
  | and a b iha ihb =>
    intro g n hc hn
    have hn : max a.ht b.ht + 1 ≤ n := hn
    obtain ⟨m, rfl⟩ : ∃ m, n = m + 1 := ⟨n - 1, by omega⟩
    have h1 := iha g m hc.1 (by omega)
    have h3 := ihb g m hc.2 (by omega)
    rw [u_holds]
    simp_arith [F_holds, Cond.d, h1, holdsP, Bool.false_or, Bool.or_false]
    cases holdsP W S a <;> simp_arith [h3, Bool.false_and, Bool.true_and]
  | or a b iha ihb =>
    intro g n hc hn
    have hn : max a.ht b.ht + 1 ≤ n := hn
    obtain ⟨m, rfl⟩ : ∃ m, n = m + 1 := ⟨n - 1, by omega⟩
    have h1 := iha g m hc.1 (by omega)
    have h3 := ihb g m hc.2 (by omega)
    rw [u_holds]
    simp_arith [F_holds, Cond.d, h1, holdsP, Bool.false_or, Bool.or_false]
    cases holdsP W S a <;> simp_arith [h3, Bool.false_or, Bool.true_or]
  | _ =>
    intro g n hc hn
    have h1 := fun (g : G) => c_single (n := n) (g := g) o h2 hc rfl ⟨by simp, by simp⟩
    rw [u_holds]
    simp only [Cond.d] at h1
    simp_arith [F_holds, Cond.d, h1, Bool.false_or, Bool.or_false]
open K04 in
theorem c_law_holds (o : SOk W S) (h2 : W.things.length ≤ 1000) : ∀ (c : Cond) (g : G) (n : Nat), CondOk W c → c.ht ≤ n → call prog cst (n + 2) "_law_holds" false [W.d, S.d, c.d] g = some (.sh (.bool (holdsP W S c)), g) := by
  intro c
  induction c with
  | always => intro g n _ _; kernel_rfl
  | never => intro g n _ _; kernel_rfl
  | not c ih =>
    intro g n hc hn
    obtain ⟨m, rfl⟩ : ∃ m, n = m + 1 := ⟨n - 1, by have : c.ht + 1 ≤ n := hn; omega⟩
    have h1 := ih g m hc (by have : c.ht + 1 ≤ m + 1 := hn; omega)
    rw [u_law_holds]
    simp_arith [F_law_holds, Cond.d, h1, holdsP, Bool.false_or, Bool.or_false]
  | and a b iha ihb =>
    intro g n hc hn
    have hn : max a.ht b.ht + 1 ≤ n := hn
    obtain ⟨m, rfl⟩ : ∃ m, n = m + 1 := ⟨n - 1, by omega⟩
    have h1 := iha g m hc.1 (by omega)
    have h3 := ihb g m hc.2 (by omega)
    rw [u_law_holds]
    simp_arith [F_law_holds, Cond.d, h1, h3, holdsP, Bool.false_or, Bool.or_false, Bool.or_true, Bool.true_or, kPa_eq, setAll, List.length_cons, List.length_nil]
    cases holdsP W S a <;> simp_arith [h3, Bool.false_and, Bool.true_and]
  | or a b iha ihb =>
    intro g n hc hn
    have hn : max a.ht b.ht + 1 ≤ n := hn
    obtain ⟨m, rfl⟩ : ∃ m, n = m + 1 := ⟨n - 1, by omega⟩
    have h1 := iha g m hc.1 (by omega)
    have h3 := ihb g m hc.2 (by omega)
    rw [u_law_holds]
    simp_arith [F_law_holds, Cond.d, h1, h3, holdsP, Bool.false_or, Bool.or_false, Bool.or_true, Bool.true_or, kPa_eq, setAll, List.length_cons, List.length_nil]
    cases holdsP W S a <;> simp_arith [h3, Bool.false_or, Bool.true_or]
  | at_ r =>
    intro g n hc hn
    rw [u_law_holds]
    simp_arith [F_law_holds, Cond.d, holdsP, Bool.false_or, Bool.or_false]
  | has t =>
    intro g n hc hn
    obtain ⟨p, hp⟩ := get_some (show t < S.places.length by rw [o.np]; exact hc)
    rw [u_law_holds]
    simp_arith [F_law_holds, Cond.d, holdsP, Bool.false_or, Bool.or_false, Bool.true_or, hp, Option.some.injEq, show PyData.tuple [.str (Str.ofString "held")] = Place.held.d from rfl]
  | lies t q =>
    intro g n hc hn
    obtain ⟨p, hp⟩ := get_some (show t < S.places.length by rw [o.np]; exact hc)
    rw [u_law_holds]
    simp_arith [F_law_holds, Cond.d, holdsP, Bool.false_or, Bool.or_false, Bool.or_true, Bool.true_or, hp, Option.some.injEq]
  | open_ l =>
    intro g n hc hn
    obtain ⟨x, hx⟩ := get_some (lock_lt o hc)
    rw [u_law_holds]
    simp_arith [F_law_holds, Cond.d, holdsP, Bool.false_or, Bool.or_false, c_law_lock (lock_hyp h2 hc), hx, Option.some.injEq]
  | lit t =>
    intro g n hc hn
    obtain ⟨x, hx⟩ := get_some (lamp_lt o hc)
    rw [u_law_holds]
    simp_arith [F_law_holds, Cond.d, holdsP, Bool.false_or, Bool.or_false, c_law_lamp (Nat.le_of_lt (kind_lt hc)) h2, hx, Option.some.injEq]
  | mark k =>
    intro g n hc hn
    cases (show k = 0 from hc)
    rw [u_law_holds]
    simp_arith [F_law_holds, Cond.d, holdsP, Bool.false_or, Bool.or_false, Bool.decide_eq_true]
  | lt k m =>
    intro g n hc hn
    cases (show k = 0 from hc)
    rw [u_law_holds]
    simp_arith [F_law_holds, Cond.d, holdsP, Bool.false_or, Bool.or_false]
end
end Pu.Tw
set_option Elab.async false
set_option maxRecDepth 100000
set_option maxHeartbeats 4000000
set_option linter.all false
/-! M5: places, boxes, lamps, locks, sight. -/
namespace Pu.Tw
open PySem L2 Pu.St
local macro_rules | `(tactic| simp_arith [$ls,*] $[$loc]?) => `(tactic| simp only [ev_nil, ev_cons, kC1_eq, kC0_eq, kC2_eq, ev_nm, nmV_eq, ev_int, ev_str, ev_bl, ev_non, ev_gl, ev_tu, ev_li, kLi_eq, kB1_eq, kB0_eq, kB2_eq, ev_bi, ev_cm, fBi_eq, fCm_eq, ev_ch, fCh_eq, kCh_t, kCh_f, ev_neg, kNeg_eq, ev_an, ev_or, kAn_t, kAn_f, kOr_t, kOr_f, ev_no, kNo_eq, evT_eq, kT_eq, kT_ow, ev_ie, kIe_t, kIe_f, ev_ix, kIx_eq, kIx2_sh, kIx2_bw, kIx2_ow, kIx2_od, kIx2_bd, ev_sl, kSl_eq, kSl0_eq, kSl1_eq, kSl2_eq, pO_nil, pO_int, pO_nm, pO_bi, pO_ix, pO_bf, kPO_eq, ev_ca, kCa_n, evR_nil, evR_cons, kR1_eq, kR0_eq, ev_bf, kBf_eq, ev_me, kMe_eq, kMe2_eq, ev_isi, kIsi_sh, ev_r1, ev_l1, ev_r2, kR2r_eq, ex_nop, ex_seq, kS_nx, kS_rt, kS_br, kS_ct, ex_as, kAs_sh, kAs_ow, kAs_od, ex_par, evP_nil, evP_cons, kP1_eq, kP0_eq, ex_up, ex_if, kIf_t, kIf_f, ex_re, kRe_sh, kRe_ow, kRe_bw, ex_ap, ex_ex, ex_fz, fzV_ow, fzV_sh, kAp_sh, kAp_ow, apV_ow, kEx_ow, kEx_bw, exV_ow, ex_fo, ex_rn, share_sh, share_ow, rd_sh, rd_ow, rd_bw, bo_sh, bo_ow, bo_od, keep_sh, keep_ow, lst_ow, lst_bw, kF_rt, kF_nx, List.getElem?_cons_zero, List.getElem?_cons_succ, Option.bind_some, Option.map_some, List.set_cons_zero, List.set_cons_succ, String.reduceEq, decide_false, decide_true, Bool.not_true, Bool.not_false, cm_eq, cm_ne, cm_in, cm_nin, cm_is, cm_isn, eqD_str, eqD_str', eqD_int, eqD_int', eqv_str, eqv_int, ofString_inj, in_tup, in_lst, ix_0, ix_1, ix_2, ix_map, ix_mapL, W1, W2, W3, W4, W5, W6, W7, W8, W9, W10, W11, W12, S0, S1, S2, S3, S4, S5, S6, T2, T3, T4, D1, D3, D4, D5, len_tup, len_lst, bi_add, Kind.eq_box, Kind.eq_lamp, Kind.eq_thing, Kind.eq_fixed, LS.eq, LS.eq_open, LS.eq_closed, LS.eq_locked, lit_eq, on_eq, wipeE, Tg.slots, bindTg, Place.eqD, Place.eqv, Lock.eqv, List.any_cons, List.any_nil, z0, z1, cm_lt, cm_le, cm_gt, cm_ge, bi_sub, Int.natCast_inj, $ls,*] $[$loc]?)

section
variable {W : World} {S : State} {g : G} {n : Nat}
theorem isi_int {i : Int} : isiD (.int i) .int = true := rfl
theorem isi_intb {i : Int} : isiD (.int i) .bool = false := rfl
theorem isi_str {x : Str} : isiD (.str x) .str = true := rfl
theorem isi_tup {xs : List D} : isiD (.tuple xs) .tuple = true := rfl
theorem cst_S : K04.cst "STATES" = some (.sh (.tuple [.str "open", .str "closed", .str "locked"])) := by kernel_rfl
theorem cst_M : K04.cst "MOST_COUNT" = some (.sh (.int 99)) := by kernel_rfl
open K04 in
theorem c_is_whole {i lo hi : Int} : call prog cst (n + 1) "is_whole" false [.int i, .int lo, .int hi] g = some (.sh (.bool (decide (lo ≤ i) && decide (i ≤ hi))), g) := by
  rw [u_is_whole]
  simp_arith [F_is_whole, isi_int, isi_intb]
  cases decide (lo ≤ i) <;> simp_arith [Bool.true_and, Bool.false_and]
open K04 in
theorem c_is_one_of {x : Str} {ws : List D} : call prog cst (n + 1) "is_one_of" false [.str x, .tuple ws] g = some (.sh (.bool (ws.any fun z => PyData.eqv z (.str x))), g) := by
  rw [u_is_one_of]
  simp_arith [F_is_one_of, isi_str]
def placeB (W : World) : Place → Bool
  | .held => true
  | .gone => true
  | .room r => decide (r < W.rooms.length)
  | .box b => decide (kindAt W b = some .box)
theorem placeB_ok {p : Place} (h : PlaceOk W p) : placeB W p = true := by
  cases p <;> first | rfl | exact decide_eq_true h
theorem len_map {α : Type} (f : α → D) (xs : List α) : (xs.map f).length = xs.length := List.length_map f
open K04 in
theorem c_is_place (p : Place) : call prog cst (n + 2) "is_place" false [W.d, p.d] g = some (.sh (.bool (placeB W p)), g) := by
  rw [u_is_place]
  cases p with
  | held => simp_arith [F_is_place, Place.d, isi_tup, List.length_cons, List.length_nil, c_is_one_of, placeB, in_tupI]; simp [c_is_one_of, ev_nil, ev_cons, kC1_eq, kC0_eq, kC2_eq, ev_nm, nmV_eq, ev_int, ev_str, ev_bl, ev_non, ev_gl, ev_tu, ev_li, kLi_eq, kB1_eq, kB0_eq, kB2_eq, ev_bi, ev_cm, fBi_eq, fCm_eq, ev_ch, fCh_eq, kCh_t, kCh_f, ev_neg, kNeg_eq, ev_an, ev_or, kAn_t, kAn_f, kOr_t, kOr_f, ev_no, kNo_eq, evT_eq, kT_eq, kT_ow, ev_ie, kIe_t, kIe_f, ev_ix, kIx_eq, kIx2_sh, kIx2_bw, kIx2_ow, kIx2_od, kIx2_bd, ev_sl, kSl_eq, kSl0_eq, kSl1_eq, kSl2_eq, pO_nil, pO_int, pO_nm, pO_bi, pO_ix, pO_bf, kPO_eq, ev_ca, kCa_n, evR_nil, evR_cons, kR1_eq, kR0_eq, ev_bf, kBf_eq, ev_me, kMe_eq, kMe2_eq, ev_isi, kIsi_sh, ev_r1, ev_l1, ev_r2, kR2r_eq, ex_nop, ex_seq, kS_nx, kS_rt, kS_br, kS_ct, ex_as, kAs_sh, kAs_ow, kAs_od, ex_par, evP_nil, evP_cons, kP1_eq, kP0_eq, ex_up, ex_if, kIf_t, kIf_f, ex_re, kRe_sh, kRe_ow, kRe_bw, ex_ap, ex_ex, ex_fz, fzV_ow, fzV_sh, kAp_sh, kAp_ow, apV_ow, kEx_ow, kEx_bw, exV_ow, ex_fo, ex_rn, share_sh, share_ow, rd_sh, rd_ow, rd_bw, bo_sh, bo_ow, bo_od, keep_sh, keep_ow, lst_ow, lst_bw, kF_rt, kF_nx, List.getElem?_cons_zero, List.getElem?_cons_succ, Option.bind_some, Option.map_some, List.set_cons_zero, List.set_cons_succ, String.reduceEq, decide_false, decide_true, Bool.not_true, Bool.not_false, cm_eq, cm_ne, cm_in, cm_nin, cm_is, cm_isn, eqD_str, eqD_str', eqD_int, eqD_int', eqv_str, eqv_int, ofString_inj, in_tup, in_lst, ix_0, ix_1, ix_2, ix_map, ix_mapL, W1, W2, W3, W4, W5, W6, W7, W8, W9, W10, W11, W12, S0, S1, S2, S3, S4, S5, S6, T2, T3, T4, D1, D3, D4, D5, len_tup, len_lst, bi_add, Kind.eq_box, Kind.eq_lamp, Kind.eq_thing, Kind.eq_fixed, LS.eq, LS.eq_open, LS.eq_closed, LS.eq_locked, lit_eq, on_eq, wipeE, Tg.slots, bindTg, Place.eqD, Place.eqv, Lock.eqv, List.any_cons, List.any_nil, z0, z1, cm_lt, cm_le, cm_gt, cm_ge, bi_sub, Int.natCast_inj]
  | gone => simp_arith [F_is_place, Place.d, isi_tup, List.length_cons, List.length_nil, c_is_one_of, placeB, in_tupI]; simp [c_is_one_of, ev_nil, ev_cons, kC1_eq, kC0_eq, kC2_eq, ev_nm, nmV_eq, ev_int, ev_str, ev_bl, ev_non, ev_gl, ev_tu, ev_li, kLi_eq, kB1_eq, kB0_eq, kB2_eq, ev_bi, ev_cm, fBi_eq, fCm_eq, ev_ch, fCh_eq, kCh_t, kCh_f, ev_neg, kNeg_eq, ev_an, ev_or, kAn_t, kAn_f, kOr_t, kOr_f, ev_no, kNo_eq, evT_eq, kT_eq, kT_ow, ev_ie, kIe_t, kIe_f, ev_ix, kIx_eq, kIx2_sh, kIx2_bw, kIx2_ow, kIx2_od, kIx2_bd, ev_sl, kSl_eq, kSl0_eq, kSl1_eq, kSl2_eq, pO_nil, pO_int, pO_nm, pO_bi, pO_ix, pO_bf, kPO_eq, ev_ca, kCa_n, evR_nil, evR_cons, kR1_eq, kR0_eq, ev_bf, kBf_eq, ev_me, kMe_eq, kMe2_eq, ev_isi, kIsi_sh, ev_r1, ev_l1, ev_r2, kR2r_eq, ex_nop, ex_seq, kS_nx, kS_rt, kS_br, kS_ct, ex_as, kAs_sh, kAs_ow, kAs_od, ex_par, evP_nil, evP_cons, kP1_eq, kP0_eq, ex_up, ex_if, kIf_t, kIf_f, ex_re, kRe_sh, kRe_ow, kRe_bw, ex_ap, ex_ex, ex_fz, fzV_ow, fzV_sh, kAp_sh, kAp_ow, apV_ow, kEx_ow, kEx_bw, exV_ow, ex_fo, ex_rn, share_sh, share_ow, rd_sh, rd_ow, rd_bw, bo_sh, bo_ow, bo_od, keep_sh, keep_ow, lst_ow, lst_bw, kF_rt, kF_nx, List.getElem?_cons_zero, List.getElem?_cons_succ, Option.bind_some, Option.map_some, List.set_cons_zero, List.set_cons_succ, String.reduceEq, decide_false, decide_true, Bool.not_true, Bool.not_false, cm_eq, cm_ne, cm_in, cm_nin, cm_is, cm_isn, eqD_str, eqD_str', eqD_int, eqD_int', eqv_str, eqv_int, ofString_inj, in_tup, in_lst, ix_0, ix_1, ix_2, ix_map, ix_mapL, W1, W2, W3, W4, W5, W6, W7, W8, W9, W10, W11, W12, S0, S1, S2, S3, S4, S5, S6, T2, T3, T4, D1, D3, D4, D5, len_tup, len_lst, bi_add, Kind.eq_box, Kind.eq_lamp, Kind.eq_thing, Kind.eq_fixed, LS.eq, LS.eq_open, LS.eq_closed, LS.eq_locked, lit_eq, on_eq, wipeE, Tg.slots, bindTg, Place.eqD, Place.eqv, Lock.eqv, List.any_cons, List.any_nil, z0, z1, cm_lt, cm_le, cm_gt, cm_ge, bi_sub, Int.natCast_inj]
  | room r =>
    simp_arith [F_is_place, Place.d, isi_tup, List.length_cons, List.length_nil, c_is_one_of, placeB, in_tupI]
    simp [c_is_whole, ev_nil, ev_cons, kC1_eq, kC0_eq, kC2_eq, ev_nm, nmV_eq, ev_int, ev_str, ev_bl, ev_non, ev_gl, ev_tu, ev_li, kLi_eq, kB1_eq, kB0_eq, kB2_eq, ev_bi, ev_cm, fBi_eq, fCm_eq, ev_ch, fCh_eq, kCh_t, kCh_f, ev_neg, kNeg_eq, ev_an, ev_or, kAn_t, kAn_f, kOr_t, kOr_f, ev_no, kNo_eq, evT_eq, kT_eq, kT_ow, ev_ie, kIe_t, kIe_f, ev_ix, kIx_eq, kIx2_sh, kIx2_bw, kIx2_ow, kIx2_od, kIx2_bd, ev_sl, kSl_eq, kSl0_eq, kSl1_eq, kSl2_eq, pO_nil, pO_int, pO_nm, pO_bi, pO_ix, pO_bf, kPO_eq, ev_ca, kCa_n, evR_nil, evR_cons, kR1_eq, kR0_eq, ev_bf, kBf_eq, ev_me, kMe_eq, kMe2_eq, ev_isi, kIsi_sh, ev_r1, ev_l1, ev_r2, kR2r_eq, ex_nop, ex_seq, kS_nx, kS_rt, kS_br, kS_ct, ex_as, kAs_sh, kAs_ow, kAs_od, ex_par, evP_nil, evP_cons, kP1_eq, kP0_eq, ex_up, ex_if, kIf_t, kIf_f, ex_re, kRe_sh, kRe_ow, kRe_bw, ex_ap, ex_ex, ex_fz, fzV_ow, fzV_sh, kAp_sh, kAp_ow, apV_ow, kEx_ow, kEx_bw, exV_ow, ex_fo, ex_rn, share_sh, share_ow, rd_sh, rd_ow, rd_bw, bo_sh, bo_ow, bo_od, keep_sh, keep_ow, lst_ow, lst_bw, kF_rt, kF_nx, List.getElem?_cons_zero, List.getElem?_cons_succ, Option.bind_some, Option.map_some, List.set_cons_zero, List.set_cons_succ, String.reduceEq, decide_false, decide_true, Bool.not_true, Bool.not_false, cm_eq, cm_ne, cm_in, cm_nin, cm_is, cm_isn, eqD_str, eqD_str', eqD_int, eqD_int', eqv_str, eqv_int, ofString_inj, in_tup, in_lst, ix_0, ix_1, ix_2, ix_map, ix_mapL, W1, W2, W3, W4, W5, W6, W7, W8, W9, W10, W11, W12, S0, S1, S2, S3, S4, S5, S6, T2, T3, T4, D1, D3, D4, D5, len_tup, len_lst, bi_add, Kind.eq_box, Kind.eq_lamp, Kind.eq_thing, Kind.eq_fixed, LS.eq, LS.eq_open, LS.eq_closed, LS.eq_locked, lit_eq, on_eq, wipeE, Tg.slots, bindTg, Place.eqD, Place.eqv, Lock.eqv, List.any_cons, List.any_nil, z0, z1, cm_lt, cm_le, cm_gt, cm_ge, bi_sub, Int.natCast_inj]
    omega
  | box b =>
    simp_arith [F_is_place, Place.d, isi_tup, List.length_cons, List.length_nil, c_is_one_of, placeB, in_tupI]
    simp [c_is_whole, ev_nil, ev_cons, kC1_eq, kC0_eq, kC2_eq, ev_nm, nmV_eq, ev_int, ev_str, ev_bl, ev_non, ev_gl, ev_tu, ev_li, kLi_eq, kB1_eq, kB0_eq, kB2_eq, ev_bi, ev_cm, fBi_eq, fCm_eq, ev_ch, fCh_eq, kCh_t, kCh_f, ev_neg, kNeg_eq, ev_an, ev_or, kAn_t, kAn_f, kOr_t, kOr_f, ev_no, kNo_eq, evT_eq, kT_eq, kT_ow, ev_ie, kIe_t, kIe_f, ev_ix, kIx_eq, kIx2_sh, kIx2_bw, kIx2_ow, kIx2_od, kIx2_bd, ev_sl, kSl_eq, kSl0_eq, kSl1_eq, kSl2_eq, pO_nil, pO_int, pO_nm, pO_bi, pO_ix, pO_bf, kPO_eq, ev_ca, kCa_n, evR_nil, evR_cons, kR1_eq, kR0_eq, ev_bf, kBf_eq, ev_me, kMe_eq, kMe2_eq, ev_isi, kIsi_sh, ev_r1, ev_l1, ev_r2, kR2r_eq, ex_nop, ex_seq, kS_nx, kS_rt, kS_br, kS_ct, ex_as, kAs_sh, kAs_ow, kAs_od, ex_par, evP_nil, evP_cons, kP1_eq, kP0_eq, ex_up, ex_if, kIf_t, kIf_f, ex_re, kRe_sh, kRe_ow, kRe_bw, ex_ap, ex_ex, ex_fz, fzV_ow, fzV_sh, kAp_sh, kAp_ow, apV_ow, kEx_ow, kEx_bw, exV_ow, ex_fo, ex_rn, share_sh, share_ow, rd_sh, rd_ow, rd_bw, bo_sh, bo_ow, bo_od, keep_sh, keep_ow, lst_ow, lst_bw, kF_rt, kF_nx, List.getElem?_cons_zero, List.getElem?_cons_succ, Option.bind_some, Option.map_some, List.set_cons_zero, List.set_cons_succ, String.reduceEq, decide_false, decide_true, Bool.not_true, Bool.not_false, cm_eq, cm_ne, cm_in, cm_nin, cm_is, cm_isn, eqD_str, eqD_str', eqD_int, eqD_int', eqv_str, eqv_int, ofString_inj, in_tup, in_lst, ix_0, ix_1, ix_2, ix_map, ix_mapL, W1, W2, W3, W4, W5, W6, W7, W8, W9, W10, W11, W12, S0, S1, S2, S3, S4, S5, S6, T2, T3, T4, D1, D3, D4, D5, len_tup, len_lst, bi_add, Kind.eq_box, Kind.eq_lamp, Kind.eq_thing, Kind.eq_fixed, LS.eq, LS.eq_open, LS.eq_closed, LS.eq_locked, lit_eq, on_eq, wipeE, Tg.slots, bindTg, Place.eqD, Place.eqv, Lock.eqv, List.any_cons, List.any_nil, z0, z1, cm_lt, cm_le, cm_gt, cm_ge, bi_sub, Int.natCast_inj]
    by_cases hb : b < W.things.length
    · have e : decide ((b : Int) ≤ (W.things.length : Int) - 1) = true := decide_eq_true (by omega)
      simp_arith [e, List.getElem?_eq_getElem hb]
      simp [kindAt, hb]
    · have e : decide ((b : Int) ≤ (W.things.length : Int) - 1) = false := decide_eq_false (by omega)
      have e2 : kindAt W b = none := by
        unfold kindAt
        rw [List.getElem?_eq_none (by omega)]
        rfl
      simp_arith [e, e2]
      simp
def mayB (W : World) (t : Nat) (p : Place) : Bool := decide (kindAt W t = some .thing) || decide (kindAt W t = some .lamp) || (match p with
  | .room _ => true
  | .gone => true
  | _ => false)
theorem kind_of {k : Nat} {t : Thing} (h : W.things[k]? = some t) : kindAt W k = some t.kind := by
  unfold kindAt
  rw [h]
  rfl
open K04 in
theorem c_may_be {t : Nat} (ht : t < W.things.length) (p : Place) : call prog cst (n + 1) "may_be" false [W.d, .int t, p.d] g = some (.sh (.bool (mayB W t p)), g) := by
  obtain ⟨x, hx⟩ := get_some ht
  rw [u_may_be]
  simp_arith [F_may_be, hx, mayB, kind_of hx, Option.some.injEq]
  have e1 : decide (("thing" : Str) = x.kind.s) = decide (x.kind = .thing) := by rw [decide_eq_decide, eq_comm, Kind.eq_thing]
  have e2 : decide (("lamp" : Str) = x.kind.s) = decide (x.kind = .lamp) := by rw [decide_eq_decide, eq_comm, Kind.eq_lamp]
  rw [e1, e2]
  cases h1 : decide (x.kind = .thing) <;> cases h2 : decide (x.kind = .lamp) <;> simp_arith [Bool.or_false, Bool.or_true, Bool.true_or, Bool.false_or] <;> cases p <;> simp_arith [Place.d, Bool.or_false, Bool.or_true, Bool.true_or, Bool.false_or]
def boxL (W : World) : List Nat := (List.range W.things.length).filter fun k => decide (kindAt W k = some .box)
def lampL (W : World) : List Nat := (List.range W.things.length).filter fun k => decide (kindAt W k = some .lamp)
def locksL (W : World) : List Lock := (List.range W.doors.length).map .door ++ (boxL W).map .box
def intD (k : Nat) : D := .int k
open K04 in
theorem c_boxes (h2 : W.things.length ≤ 1000) : call prog cst (n + 1) "boxes" false [W.d] g = some (.ow ((boxL W).map intD), g) := by
  rw [u_boxes]
  simp_arith [F_boxes]
  rw [ev_lc (α := Nat) intD (fun k => decide (kindAt W k = some .box)) intD (xs := List.range W.things.length) (vi := .ow ((List.range W.things.length).map intD)) ?_ rfl ?_]
  · simp_arith []; rfl
  · simp_arith [List.length_map, kR1r_eq (show W.things.length ≤ 16777216 by omega)]; rfl
  · intro k hk
    have hk := List.mem_range.mp hk
    refine ⟨_, rfl, ?_, fun _ => ⟨_, rfl, rfl⟩⟩
    simp_arith [intD, List.getElem?_eq_getElem hk]
    simp [kindAt, hk]
open K04 in
theorem c_lamps (h2 : W.things.length ≤ 1000) : call prog cst (n + 1) "lamps" false [W.d] g = some (.ow ((lampL W).map intD), g) := by
  rw [u_lamps]
  simp_arith [F_lamps]
  rw [ev_lc (α := Nat) intD (fun k => decide (kindAt W k = some .lamp)) intD (xs := List.range W.things.length) (vi := .ow ((List.range W.things.length).map intD)) ?_ rfl ?_]
  · simp_arith []; rfl
  · simp_arith [List.length_map, kR1r_eq (show W.things.length ≤ 16777216 by omega)]; rfl
  · intro k hk
    have hk := List.mem_range.mp hk
    refine ⟨_, rfl, ?_, fun _ => ⟨_, rfl, rfl⟩⟩
    simp_arith [intD, List.getElem?_eq_getElem hk]
    simp [kindAt, hk]
theorem bi_addL {xs ys : List D} (h : xs.length + ys.length ≤ sizeLine) : binD .add (.list xs) (.list ys) = some (.ow (xs ++ ys)) := if_pos h
theorem bi_addT {xs ys : List D} (h : xs.length + ys.length ≤ sizeLine) : binD .add (.tuple xs) (.tuple ys) = some (.sh (.tuple (xs ++ ys))) := if_pos h
theorem filt_true {α : Type} (xs : List α) : xs.filter (fun _ => true) = xs := List.filter_eq_self.mpr fun _ _ => rfl
theorem boxL_len : (boxL W).length ≤ W.things.length := by
  unfold boxL
  have := List.length_filter_le (fun k => decide (kindAt W k = some .box)) (List.range W.things.length)
  rw [List.length_range] at this
  exact this
open K04 in
theorem c_locks (h2 : W.things.length ≤ 1000) (h3 : W.doors.length ≤ 1000) : call prog cst (n + 2) "locks" false [W.d] g = some (.ow ((locksL W).map Lock.d), g) := by
  rw [u_locks]
  have hb := boxL_len (W := W)
  simp_arith [F_locks]
  rw [ev_lc (α := Nat) intD (fun k => true) (fun k => (Lock.door k).d) (xs := List.range W.doors.length) (vi := .ow ((List.range W.doors.length).map intD)) ?_ rfl ?_]
  · simp_arith []
    rw [ev_lc (α := Nat) intD (fun k => true) (fun k => (Lock.box k).d) (xs := boxL W) (vi := .ow ((boxL W).map intD)) ?_ rfl ?_]
    · simp_arith [filt_true]
      rw [bi_addL (by simp only [List.length_map, List.length_range]; rw [sizeLine_eq]; omega)]
      simp_arith [locksL, List.map_append, List.map_map]
      rfl
    · simp_arith [c_boxes h2]
    · intro k hk
      refine ⟨_, rfl, rfl, fun _ => ⟨.sh (Lock.box k).d, ?_, rfl⟩⟩
      simp_arith [intD]
      rfl
  · simp_arith [List.length_map, kR1r_eq (show W.doors.length ≤ 16777216 by omega)]; rfl
  · intro k hk
    refine ⟨_, rfl, rfl, fun _ => ⟨.sh (Lock.door k).d, ?_, rfl⟩⟩
    simp_arith [intD]
    rfl
/-! ### rooms of things -/
def roomOf (W : World) (S : State) (t : Nat) : Option Nat := match S.places[t]? with
  | some .held => some S.room
  | some (.room r) => some r
  | some (.box b) => match S.places[b]? with
    | some (.room r) => some r
    | _ => none
  | _ => none
def shutIn (W : World) (S : State) (t : Nat) : Bool := match S.places[t]? with
  | some (.box b) => !decide (S.locks[lockNo W (.box b)]? = some .open_)
  | _ => false
theorem box_room (o : SOk W S) {b : Nat} (h : kindAt W b = some .box) : ∃ r, S.places[b]? = some (.room r) := by
  obtain ⟨p, hp⟩ := get_some (show b < S.places.length by rw [o.np]; exact kind_lt h)
  obtain ⟨r, rfl⟩ := o.fx b p hp (.inl h)
  exact ⟨r, hp⟩
open K04 in
theorem c_room_of (o : SOk W S) {t : Nat} (ht : t < W.things.length) : call prog cst (n + 2) "room_of" false [W.d, S.d, .int t] g = some (.sh (optD (roomOf W S t)), g) := by
  obtain ⟨p, hp⟩ := get_some (show t < S.places.length by rw [o.np]; exact ht)
  have hpo := o.pl t p hp
  have hheld : PyData.tuple [.str (Str.ofString "held")] = Place.held.d := rfl
  rw [u_room_of]
  simp_arith [F_room_of, hp, hheld, roomOf]
  cases p with
  | held => simp [ev_nil, ev_cons, kC1_eq, kC0_eq, kC2_eq, ev_nm, nmV_eq, ev_int, ev_str, ev_bl, ev_non, ev_gl, ev_tu, ev_li, kLi_eq, kB1_eq, kB0_eq, kB2_eq, ev_bi, ev_cm, fBi_eq, fCm_eq, ev_ch, fCh_eq, kCh_t, kCh_f, ev_neg, kNeg_eq, ev_an, ev_or, kAn_t, kAn_f, kOr_t, kOr_f, ev_no, kNo_eq, evT_eq, kT_eq, kT_ow, ev_ie, kIe_t, kIe_f, ev_ix, kIx_eq, kIx2_sh, kIx2_bw, kIx2_ow, kIx2_od, kIx2_bd, ev_sl, kSl_eq, kSl0_eq, kSl1_eq, kSl2_eq, pO_nil, pO_int, pO_nm, pO_bi, pO_ix, pO_bf, kPO_eq, ev_ca, kCa_n, evR_nil, evR_cons, kR1_eq, kR0_eq, ev_bf, kBf_eq, ev_me, kMe_eq, kMe2_eq, ev_isi, kIsi_sh, ev_r1, ev_l1, ev_r2, kR2r_eq, ex_nop, ex_seq, kS_nx, kS_rt, kS_br, kS_ct, ex_as, kAs_sh, kAs_ow, kAs_od, ex_par, evP_nil, evP_cons, kP1_eq, kP0_eq, ex_up, ex_if, kIf_t, kIf_f, ex_re, kRe_sh, kRe_ow, kRe_bw, ex_ap, ex_ex, ex_fz, fzV_ow, fzV_sh, kAp_sh, kAp_ow, apV_ow, kEx_ow, kEx_bw, exV_ow, ex_fo, ex_rn, share_sh, share_ow, rd_sh, rd_ow, rd_bw, bo_sh, bo_ow, bo_od, keep_sh, keep_ow, lst_ow, lst_bw, kF_rt, kF_nx, List.getElem?_cons_zero, List.getElem?_cons_succ, Option.bind_some, Option.map_some, List.set_cons_zero, List.set_cons_succ, String.reduceEq, decide_false, decide_true, Bool.not_true, Bool.not_false, cm_eq, cm_ne, cm_in, cm_nin, cm_is, cm_isn, eqD_str, eqD_str', eqD_int, eqD_int', eqv_str, eqv_int, ofString_inj, in_tup, in_lst, ix_0, ix_1, ix_2, ix_map, ix_mapL, W1, W2, W3, W4, W5, W6, W7, W8, W9, W10, W11, W12, S0, S1, S2, S3, S4, S5, S6, T2, T3, T4, D1, D3, D4, D5, len_tup, len_lst, bi_add, Kind.eq_box, Kind.eq_lamp, Kind.eq_thing, Kind.eq_fixed, LS.eq, LS.eq_open, LS.eq_closed, LS.eq_locked, lit_eq, on_eq, wipeE, Tg.slots, bindTg, Place.eqD, Place.eqv, Lock.eqv, List.any_cons, List.any_nil, z0, z1, cm_lt, cm_le, cm_gt, cm_ge, bi_sub, Int.natCast_inj, Place.d, optD]
  | gone => simp [ev_nil, ev_cons, kC1_eq, kC0_eq, kC2_eq, ev_nm, nmV_eq, ev_int, ev_str, ev_bl, ev_non, ev_gl, ev_tu, ev_li, kLi_eq, kB1_eq, kB0_eq, kB2_eq, ev_bi, ev_cm, fBi_eq, fCm_eq, ev_ch, fCh_eq, kCh_t, kCh_f, ev_neg, kNeg_eq, ev_an, ev_or, kAn_t, kAn_f, kOr_t, kOr_f, ev_no, kNo_eq, evT_eq, kT_eq, kT_ow, ev_ie, kIe_t, kIe_f, ev_ix, kIx_eq, kIx2_sh, kIx2_bw, kIx2_ow, kIx2_od, kIx2_bd, ev_sl, kSl_eq, kSl0_eq, kSl1_eq, kSl2_eq, pO_nil, pO_int, pO_nm, pO_bi, pO_ix, pO_bf, kPO_eq, ev_ca, kCa_n, evR_nil, evR_cons, kR1_eq, kR0_eq, ev_bf, kBf_eq, ev_me, kMe_eq, kMe2_eq, ev_isi, kIsi_sh, ev_r1, ev_l1, ev_r2, kR2r_eq, ex_nop, ex_seq, kS_nx, kS_rt, kS_br, kS_ct, ex_as, kAs_sh, kAs_ow, kAs_od, ex_par, evP_nil, evP_cons, kP1_eq, kP0_eq, ex_up, ex_if, kIf_t, kIf_f, ex_re, kRe_sh, kRe_ow, kRe_bw, ex_ap, ex_ex, ex_fz, fzV_ow, fzV_sh, kAp_sh, kAp_ow, apV_ow, kEx_ow, kEx_bw, exV_ow, ex_fo, ex_rn, share_sh, share_ow, rd_sh, rd_ow, rd_bw, bo_sh, bo_ow, bo_od, keep_sh, keep_ow, lst_ow, lst_bw, kF_rt, kF_nx, List.getElem?_cons_zero, List.getElem?_cons_succ, Option.bind_some, Option.map_some, List.set_cons_zero, List.set_cons_succ, String.reduceEq, decide_false, decide_true, Bool.not_true, Bool.not_false, cm_eq, cm_ne, cm_in, cm_nin, cm_is, cm_isn, eqD_str, eqD_str', eqD_int, eqD_int', eqv_str, eqv_int, ofString_inj, in_tup, in_lst, ix_0, ix_1, ix_2, ix_map, ix_mapL, W1, W2, W3, W4, W5, W6, W7, W8, W9, W10, W11, W12, S0, S1, S2, S3, S4, S5, S6, T2, T3, T4, D1, D3, D4, D5, len_tup, len_lst, bi_add, Kind.eq_box, Kind.eq_lamp, Kind.eq_thing, Kind.eq_fixed, LS.eq, LS.eq_open, LS.eq_closed, LS.eq_locked, lit_eq, on_eq, wipeE, Tg.slots, bindTg, Place.eqD, Place.eqv, Lock.eqv, List.any_cons, List.any_nil, z0, z1, cm_lt, cm_le, cm_gt, cm_ge, bi_sub, Int.natCast_inj, Place.d, optD]
  | room r => simp [ev_nil, ev_cons, kC1_eq, kC0_eq, kC2_eq, ev_nm, nmV_eq, ev_int, ev_str, ev_bl, ev_non, ev_gl, ev_tu, ev_li, kLi_eq, kB1_eq, kB0_eq, kB2_eq, ev_bi, ev_cm, fBi_eq, fCm_eq, ev_ch, fCh_eq, kCh_t, kCh_f, ev_neg, kNeg_eq, ev_an, ev_or, kAn_t, kAn_f, kOr_t, kOr_f, ev_no, kNo_eq, evT_eq, kT_eq, kT_ow, ev_ie, kIe_t, kIe_f, ev_ix, kIx_eq, kIx2_sh, kIx2_bw, kIx2_ow, kIx2_od, kIx2_bd, ev_sl, kSl_eq, kSl0_eq, kSl1_eq, kSl2_eq, pO_nil, pO_int, pO_nm, pO_bi, pO_ix, pO_bf, kPO_eq, ev_ca, kCa_n, evR_nil, evR_cons, kR1_eq, kR0_eq, ev_bf, kBf_eq, ev_me, kMe_eq, kMe2_eq, ev_isi, kIsi_sh, ev_r1, ev_l1, ev_r2, kR2r_eq, ex_nop, ex_seq, kS_nx, kS_rt, kS_br, kS_ct, ex_as, kAs_sh, kAs_ow, kAs_od, ex_par, evP_nil, evP_cons, kP1_eq, kP0_eq, ex_up, ex_if, kIf_t, kIf_f, ex_re, kRe_sh, kRe_ow, kRe_bw, ex_ap, ex_ex, ex_fz, fzV_ow, fzV_sh, kAp_sh, kAp_ow, apV_ow, kEx_ow, kEx_bw, exV_ow, ex_fo, ex_rn, share_sh, share_ow, rd_sh, rd_ow, rd_bw, bo_sh, bo_ow, bo_od, keep_sh, keep_ow, lst_ow, lst_bw, kF_rt, kF_nx, List.getElem?_cons_zero, List.getElem?_cons_succ, Option.bind_some, Option.map_some, List.set_cons_zero, List.set_cons_succ, String.reduceEq, decide_false, decide_true, Bool.not_true, Bool.not_false, cm_eq, cm_ne, cm_in, cm_nin, cm_is, cm_isn, eqD_str, eqD_str', eqD_int, eqD_int', eqv_str, eqv_int, ofString_inj, in_tup, in_lst, ix_0, ix_1, ix_2, ix_map, ix_mapL, W1, W2, W3, W4, W5, W6, W7, W8, W9, W10, W11, W12, S0, S1, S2, S3, S4, S5, S6, T2, T3, T4, D1, D3, D4, D5, len_tup, len_lst, bi_add, Kind.eq_box, Kind.eq_lamp, Kind.eq_thing, Kind.eq_fixed, LS.eq, LS.eq_open, LS.eq_closed, LS.eq_locked, lit_eq, on_eq, wipeE, Tg.slots, bindTg, Place.eqD, Place.eqv, Lock.eqv, List.any_cons, List.any_nil, z0, z1, cm_lt, cm_le, cm_gt, cm_ge, bi_sub, Int.natCast_inj, Place.d, optD]
  | box b =>
    obtain ⟨r, hr⟩ := box_room o (show kindAt W b = some .box from hpo)
    have hrec : call prog cst (n + 1) "room_of" false [W.d, S.d, .int b] g = some (.sh (.int r), g) := by
      rw [u_room_of]
      simp_arith [F_room_of, hr, hheld]
      simp [ev_nil, ev_cons, kC1_eq, kC0_eq, kC2_eq, ev_nm, nmV_eq, ev_int, ev_str, ev_bl, ev_non, ev_gl, ev_tu, ev_li, kLi_eq, kB1_eq, kB0_eq, kB2_eq, ev_bi, ev_cm, fBi_eq, fCm_eq, ev_ch, fCh_eq, kCh_t, kCh_f, ev_neg, kNeg_eq, ev_an, ev_or, kAn_t, kAn_f, kOr_t, kOr_f, ev_no, kNo_eq, evT_eq, kT_eq, kT_ow, ev_ie, kIe_t, kIe_f, ev_ix, kIx_eq, kIx2_sh, kIx2_bw, kIx2_ow, kIx2_od, kIx2_bd, ev_sl, kSl_eq, kSl0_eq, kSl1_eq, kSl2_eq, pO_nil, pO_int, pO_nm, pO_bi, pO_ix, pO_bf, kPO_eq, ev_ca, kCa_n, evR_nil, evR_cons, kR1_eq, kR0_eq, ev_bf, kBf_eq, ev_me, kMe_eq, kMe2_eq, ev_isi, kIsi_sh, ev_r1, ev_l1, ev_r2, kR2r_eq, ex_nop, ex_seq, kS_nx, kS_rt, kS_br, kS_ct, ex_as, kAs_sh, kAs_ow, kAs_od, ex_par, evP_nil, evP_cons, kP1_eq, kP0_eq, ex_up, ex_if, kIf_t, kIf_f, ex_re, kRe_sh, kRe_ow, kRe_bw, ex_ap, ex_ex, ex_fz, fzV_ow, fzV_sh, kAp_sh, kAp_ow, apV_ow, kEx_ow, kEx_bw, exV_ow, ex_fo, ex_rn, share_sh, share_ow, rd_sh, rd_ow, rd_bw, bo_sh, bo_ow, bo_od, keep_sh, keep_ow, lst_ow, lst_bw, kF_rt, kF_nx, List.getElem?_cons_zero, List.getElem?_cons_succ, Option.bind_some, Option.map_some, List.set_cons_zero, List.set_cons_succ, String.reduceEq, decide_false, decide_true, Bool.not_true, Bool.not_false, cm_eq, cm_ne, cm_in, cm_nin, cm_is, cm_isn, eqD_str, eqD_str', eqD_int, eqD_int', eqv_str, eqv_int, ofString_inj, in_tup, in_lst, ix_0, ix_1, ix_2, ix_map, ix_mapL, W1, W2, W3, W4, W5, W6, W7, W8, W9, W10, W11, W12, S0, S1, S2, S3, S4, S5, S6, T2, T3, T4, D1, D3, D4, D5, len_tup, len_lst, bi_add, Kind.eq_box, Kind.eq_lamp, Kind.eq_thing, Kind.eq_fixed, LS.eq, LS.eq_open, LS.eq_closed, LS.eq_locked, lit_eq, on_eq, wipeE, Tg.slots, bindTg, Place.eqD, Place.eqv, Lock.eqv, List.any_cons, List.any_nil, z0, z1, cm_lt, cm_le, cm_gt, cm_ge, bi_sub, Int.natCast_inj, Place.d]
    simp [ev_nil, ev_cons, kC1_eq, kC0_eq, kC2_eq, ev_nm, nmV_eq, ev_int, ev_str, ev_bl, ev_non, ev_gl, ev_tu, ev_li, kLi_eq, kB1_eq, kB0_eq, kB2_eq, ev_bi, ev_cm, fBi_eq, fCm_eq, ev_ch, fCh_eq, kCh_t, kCh_f, ev_neg, kNeg_eq, ev_an, ev_or, kAn_t, kAn_f, kOr_t, kOr_f, ev_no, kNo_eq, evT_eq, kT_eq, kT_ow, ev_ie, kIe_t, kIe_f, ev_ix, kIx_eq, kIx2_sh, kIx2_bw, kIx2_ow, kIx2_od, kIx2_bd, ev_sl, kSl_eq, kSl0_eq, kSl1_eq, kSl2_eq, pO_nil, pO_int, pO_nm, pO_bi, pO_ix, pO_bf, kPO_eq, ev_ca, kCa_n, evR_nil, evR_cons, kR1_eq, kR0_eq, ev_bf, kBf_eq, ev_me, kMe_eq, kMe2_eq, ev_isi, kIsi_sh, ev_r1, ev_l1, ev_r2, kR2r_eq, ex_nop, ex_seq, kS_nx, kS_rt, kS_br, kS_ct, ex_as, kAs_sh, kAs_ow, kAs_od, ex_par, evP_nil, evP_cons, kP1_eq, kP0_eq, ex_up, ex_if, kIf_t, kIf_f, ex_re, kRe_sh, kRe_ow, kRe_bw, ex_ap, ex_ex, ex_fz, fzV_ow, fzV_sh, kAp_sh, kAp_ow, apV_ow, kEx_ow, kEx_bw, exV_ow, ex_fo, ex_rn, share_sh, share_ow, rd_sh, rd_ow, rd_bw, bo_sh, bo_ow, bo_od, keep_sh, keep_ow, lst_ow, lst_bw, kF_rt, kF_nx, List.getElem?_cons_zero, List.getElem?_cons_succ, Option.bind_some, Option.map_some, List.set_cons_zero, List.set_cons_succ, String.reduceEq, decide_false, decide_true, Bool.not_true, Bool.not_false, cm_eq, cm_ne, cm_in, cm_nin, cm_is, cm_isn, eqD_str, eqD_str', eqD_int, eqD_int', eqv_str, eqv_int, ofString_inj, in_tup, in_lst, ix_0, ix_1, ix_2, ix_map, ix_mapL, W1, W2, W3, W4, W5, W6, W7, W8, W9, W10, W11, W12, S0, S1, S2, S3, S4, S5, S6, T2, T3, T4, D1, D3, D4, D5, len_tup, len_lst, bi_add, Kind.eq_box, Kind.eq_lamp, Kind.eq_thing, Kind.eq_fixed, LS.eq, LS.eq_open, LS.eq_closed, LS.eq_locked, lit_eq, on_eq, wipeE, Tg.slots, bindTg, Place.eqD, Place.eqv, Lock.eqv, List.any_cons, List.any_nil, z0, z1, cm_lt, cm_le, cm_gt, cm_ge, bi_sub, Int.natCast_inj, Place.d, optD, hr]
    simp_arith [hrec, optD]
open K04 in
theorem c_is_shut_in (o : SOk W S) (h2 : W.things.length ≤ 1000) {t : Nat} (ht : t < W.things.length) : call prog cst (n + 2) "is_shut_in" false [W.d, S.d, .int t] g = some (.sh (.bool (shutIn W S t)), g) := by
  obtain ⟨p, hp⟩ := get_some (show t < S.places.length by rw [o.np]; exact ht)
  have hpo := o.pl t p hp
  rw [u_is_shut_in]
  simp_arith [F_is_shut_in, hp, shutIn]
  cases p with
  | held => simp_arith [Place.d]
  | gone => simp_arith [Place.d]
  | room r => simp_arith [Place.d]
  | box b =>
    have hk : LockOk W (.box b) := hpo
    obtain ⟨x, hx⟩ := get_some (lock_lt o hk)
    have hl := fun (g : G) => c_lock_number (n := n) (g := g) (lock_hyp h2 hk)
    simp only [Lock.d] at hl
    simp_arith [Place.d, hl, hx, Option.some.injEq]
end
end Pu.Tw
set_option Elab.async false
set_option maxRecDepth 100000
set_option maxHeartbeats 4000000
set_option linter.all false
/-! M6: sight. -/
namespace Pu.Tw
open PySem L2 Pu.St
local macro_rules | `(tactic| simp_arith [$ls,*] $[$loc]?) => `(tactic| simp only [ev_nil, ev_cons, kC1_eq, kC0_eq, kC2_eq, ev_nm, nmV_eq, ev_int, ev_str, ev_bl, ev_non, ev_gl, ev_tu, ev_li, kLi_eq, kB1_eq, kB0_eq, kB2_eq, ev_bi, ev_cm, fBi_eq, fCm_eq, ev_ch, fCh_eq, kCh_t, kCh_f, ev_neg, kNeg_eq, ev_an, ev_or, kAn_t, kAn_f, kOr_t, kOr_f, ev_no, kNo_eq, evT_eq, kT_eq, kT_ow, ev_ie, kIe_t, kIe_f, ev_ix, kIx_eq, kIx2_sh, kIx2_bw, kIx2_ow, kIx2_od, kIx2_bd, ev_sl, kSl_eq, kSl0_eq, kSl1_eq, kSl2_eq, pO_nil, pO_int, pO_nm, pO_bi, pO_ix, pO_bf, kPO_eq, ev_ca, kCa_n, evR_nil, evR_cons, kR1_eq, kR0_eq, ev_bf, kBf_eq, ev_me, kMe_eq, kMe2_eq, ev_isi, kIsi_sh, ev_r1, ev_l1, ev_r2, kR2r_eq, ex_nop, ex_seq, kS_nx, kS_rt, kS_br, kS_ct, ex_as, kAs_sh, kAs_ow, kAs_od, ex_par, evP_nil, evP_cons, kP1_eq, kP0_eq, ex_up, ex_if, kIf_t, kIf_f, ex_re, kRe_sh, kRe_ow, kRe_bw, ex_ap, ex_ex, ex_fz, fzV_ow, fzV_sh, kAp_sh, kAp_ow, apV_ow, kEx_ow, kEx_bw, exV_ow, ex_fo, ex_rn, share_sh, share_ow, rd_sh, rd_ow, rd_bw, bo_sh, bo_ow, bo_od, keep_sh, keep_ow, lst_ow, lst_bw, kF_rt, kF_nx, List.getElem?_cons_zero, List.getElem?_cons_succ, Option.bind_some, Option.map_some, List.set_cons_zero, List.set_cons_succ, String.reduceEq, decide_false, decide_true, Bool.not_true, Bool.not_false, cm_eq, cm_ne, cm_in, cm_nin, cm_is, cm_isn, eqD_str, eqD_str', eqD_int, eqD_int', eqv_str, eqv_int, ofString_inj, in_tup, in_lst, ix_0, ix_1, ix_2, ix_map, ix_mapL, W1, W2, W3, W4, W5, W6, W7, W8, W9, W10, W11, W12, S0, S1, S2, S3, S4, S5, S6, T2, T3, T4, D1, D3, D4, D5, len_tup, len_lst, bi_add, Kind.eq_box, Kind.eq_lamp, Kind.eq_thing, Kind.eq_fixed, LS.eq, LS.eq_open, LS.eq_closed, LS.eq_locked, lit_eq, on_eq, wipeE, Tg.slots, bindTg, Place.eqD, Place.eqv, Lock.eqv, List.any_cons, List.any_nil, z0, z1, cm_lt, cm_le, cm_gt, cm_ge, bi_sub, Int.natCast_inj, $ls,*] $[$loc]?)

/-! ### loops -/
/-- a walk that may end by a return -/
theorem fo_find {α : Type} (enc : α → D) {body : Env → G → Option (Out × Env × G)} {bind : D → Env → Option Env} {g : G} (p : α → Bool) (v : Vl) (inv : Env → Prop) : ∀ (xs : List α) (ρ : Env),
    (∀ x ∈ xs, ∀ ρ, inv ρ → ∃ ρ1, bind (enc x) ρ = some ρ1 ∧ ∃ ρ2, body ρ1 g = some (if p x then .rt v else .nx, ρ2, g) ∧ inv ρ2) → inv ρ →
    ∃ ρ', forLoop body bind (xs.map enc) ρ g = some (if xs.any p then .rt v else .nx, ρ', g) ∧ inv ρ'
  | [], ρ, _, hi => ⟨ρ, rfl, hi⟩
  | x :: xs, ρ, h, hi => by
    obtain ⟨ρ1, h1, ρ2, h2, hi2⟩ := h x List.mem_cons_self ρ hi
    rw [List.map_cons]
    simp only [forLoop, h1, h2, Option.bind_eq_bind, Option.bind_some]
    cases hp : p x with
    | true =>
      simp only [if_true, List.any_cons, hp, Bool.true_or]
      exact ⟨ρ2, rfl, hi2⟩
    | false =>
      simp only [Bool.false_eq_true, if_false, List.any_cons, hp, Bool.false_or]
      exact fo_find enc p v inv xs ρ2 (fun y hy => h y (List.mem_cons_of_mem _ hy)) hi2
theorem fo_find_b {α β : Type} (enc : α → D) {body : Env → G → Option (Out × Env × G)} {bind : D → Env → Option Env} {g : G} (p : α → Bool) (v : Vl) (inv : Env → Prop) {xs : List α} {ρ : Env} {K : Out × Env × G → Option β} {R : Option β}
    (hK : ∀ ρ', inv ρ' → K (if xs.any p then .rt v else .nx, ρ', g) = R) (hi : inv ρ) (h : ∀ x ∈ xs, ∀ ρ, inv ρ → ∃ ρ1, bind (enc x) ρ = some ρ1 ∧ ∃ ρ2, body ρ1 g = some (if p x then .rt v else .nx, ρ2, g) ∧ inv ρ2) :
    (forLoop body bind (xs.map enc) ρ g).bind K = R := by
  obtain ⟨ρ', h1, h2⟩ := fo_find enc p v inv xs ρ h hi
  rw [h1]
  exact hK ρ' h2
/-- a walk that goes to its end -/
theorem fo_inv {α : Type} (enc : α → D) {body : Env → G → Option (Out × Env × G)} {bind : D → Env → Option Env} (inv : List α → Env → G → Prop) : ∀ (xs ys : List α) (ρ : Env) (g : G),
    (∀ zs x ρ g, x ∈ ys → inv zs ρ g → ∃ ρ1, bind (enc x) ρ = some ρ1 ∧ ∃ ρ2 g2, body ρ1 g = some (.nx, ρ2, g2) ∧ inv (zs ++ [x]) ρ2 g2) → inv xs ρ g →
    ∃ ρ' g', forLoop body bind (ys.map enc) ρ g = some (.nx, ρ', g') ∧ inv (xs ++ ys) ρ' g'
  | xs, [], ρ, g, _, hi => ⟨ρ, g, rfl, by rw [List.append_nil]; exact hi⟩
  | xs, y :: ys, ρ, g, h, hi => by
    obtain ⟨ρ1, h1, ρ2, g2, h2, hi2⟩ := h xs y ρ g List.mem_cons_self hi
    obtain ⟨ρ', g', h3, h4⟩ := fo_inv enc inv (xs ++ [y]) ys ρ2 g2 (fun zs x ρ g hx => h zs x ρ g (List.mem_cons_of_mem _ hx)) hi2
    rw [List.map_cons]
    simp only [forLoop, h1, h2, Option.bind_eq_bind, Option.bind_some]
    exact ⟨ρ', g', h3, by rw [List.append_assoc] at h4; exact h4⟩

section
variable {W : World} {S : State} {g : G} {n : Nat}
theorem eqv_opt {r : Option Nat} {k : Nat} : PyData.eqv (optD r) (.int k) = decide (r = some k) := by
  cases r with
  | none => rfl
  | some i =>
    show PyData.eqv (.int i) (.int k) = _
    simp_arith [Option.some.injEq]
theorem optD_eqv {r s : Option Nat} : PyData.eqv (optD r) (optD s) = decide (r = s) := by
  cases r <;> cases s <;> simp [optD, PyData.eqv] <;> (rw [Bool.eq_iff_iff]; simp; omega)
def nearB (W : World) (S : State) (t : Nat) : Bool := match S.places[t]? with
  | some (.box b) => decide (S.places[b]? = some (.room S.room)) && decide (S.locks[lockNo W (.box b)]? = some .open_)
  | some .held => true
  | some (.room r) => decide (r = S.room)
  | _ => false
theorem near_eq (o : SOk W S) {t : Nat} (ht : t < W.things.length) : (decide (roomOf W S t = some S.room) && !shutIn W S t) = nearB W S t := by
  obtain ⟨p, hp⟩ := get_some (show t < S.places.length by rw [o.np]; exact ht)
  unfold roomOf shutIn nearB
  rw [hp]
  cases p with
  | held => simp
  | gone => simp
  | room r => simp
  | box b =>
    obtain ⟨r, hr⟩ := box_room o (show kindAt W b = some .box from o.pl t _ hp)
    simp [hr]
def lightB (W : World) (S : State) : Bool := match W.rooms[S.room]? with
  | some r => r.2
  | none => false
def brightB (W : World) (S : State) : Bool := lightB W S || (lampL W).any fun k => decide (S.lits[lampNo W k]? = some true) && nearB W S k
def seenB (W : World) (S : State) (t : Nat) : Bool := decide (S.places[t]? = some .held) || (nearB W S t && brightB W S)
def lockSeenB (W : World) (S : State) : Lock → Bool
  | .box b => seenB W S b
  | .door k => brightB W S && (match W.doors[k]? with
    | some x => decide (S.room = x.one) || decide (S.room = x.other)
    | none => false)
theorem light_D {r : Str × Bool} : ixD (roomD r) (.int 1) = some (.str (if r.2 then "light" else "dark")) := rfl
theorem light_eq {b : Bool} : ((if b then (Str.ofString "light") else (Str.ofString "dark")) = Str.ofString "light") = (b = true) := by cases b <;> simp [ofString_inj]
theorem lamp_mem {k : Nat} (h : k ∈ lampL W) : kindAt W k = some .lamp := by simpa using (List.mem_filter.mp h).2
open K04 in
theorem c_is_bright (o : SOk W S) (h2 : W.things.length ≤ 1000) : call prog cst (n + 3) "is_bright" false [W.d, S.d] g = some (.sh (.bool (brightB W S)), g) := by
  obtain ⟨r, hr⟩ := get_some o.room
  rw [u_is_bright]
  simp_arith [F_is_bright, hr, light_D, light_eq, Bool.decide_eq_true]
  have hl : lightB W S = r.2 := by unfold lightB; rw [hr]
  unfold brightB
  rw [hl]
  cases hr2 : r.2 with
  | true => simp_arith [Bool.true_or]
  | false =>
    simp_arith [Bool.false_or, c_lamps h2]
    rw [kFo_eq (share_ow) (show itD _ = some ((lampL W).map intD) from rfl)]
    simp only [Option.bind_assoc]
    refine fo_find_b intD (fun k => decide (S.lits[lampNo W k]? = some true) && nearB W S k) (.sh (.bool true)) (fun ρ => ∃ x, ρ = [some (.sh W.d), some (.sh S.d), x]) (fun ρ' _ => ?_) ⟨none, rfl⟩ fun k hk ρ hρ => ?_
    · cases (lampL W).any (fun k => decide (S.lits[lampNo W k]? = some true) && nearB W S k) <;> simp_arith [if_true, Bool.false_eq_true, if_false]
    · obtain ⟨x, rfl⟩ := hρ
      have hkk := lamp_mem hk
      have hlt := kind_lt hkk
      obtain ⟨b, hb⟩ := get_some (lamp_lt o hkk)
      refine ⟨_, rfl, [some (.sh W.d), some (.sh S.d), some (.sh (intD k))], ?_, ⟨_, rfl⟩⟩
      simp_arith [intD, c_lamp_number (Nat.le_of_lt hlt) h2, hb, Bool.decide_eq_true, Option.some.injEq, c_room_of o hlt, eqv_opt, ← near_eq o hlt]
      cases b <;> simp_arith [Bool.false_and, Bool.true_and, Bool.false_eq_true, if_false, c_room_of o hlt, eqv_opt]
      cases decide (roomOf W S k = some S.room) <;> simp_arith [Bool.false_and, Bool.true_and, Bool.false_eq_true, if_false, c_is_shut_in o h2 hlt]
      cases shutIn W S k <;> simp_arith [Bool.false_eq_true, if_false, if_true]
open K04 in
theorem c_is_seen (o : SOk W S) (h2 : W.things.length ≤ 1000) {t : Nat} (ht : t < W.things.length) : call prog cst (n + 4) "is_seen" false [W.d, S.d, .int t] g = some (.sh (.bool (seenB W S t)), g) := by
  obtain ⟨p, hp⟩ := get_some (show t < S.places.length by rw [o.np]; exact ht)
  have hheld : PyData.tuple [.str (Str.ofString "held")] = Place.held.d := rfl
  rw [u_is_seen]
  simp_arith [F_is_seen, hp, hheld, seenB, Option.some.injEq]
  cases decide (p = .held) with
  | true => simp_arith [Bool.true_or]
  | false =>
    simp_arith [Bool.false_or, c_is_bright o h2, ← near_eq o ht]
    cases brightB W S <;> simp_arith [Bool.and_false, Bool.and_true, c_room_of o ht, eqv_opt]
    cases decide (roomOf W S t = some S.room) <;> simp_arith [Bool.false_and, Bool.true_and, c_is_shut_in o h2 ht]
theorem in_int2 {i a b : Nat} : inD (.int i) (.tuple [.int a, .int b]) = some (decide (i = a) || decide (i = b)) := by
  rw [in_tupI]
  simp_arith [Bool.or_false]
  rw [show decide (a = i) = decide (i = a) by rw [decide_eq_decide]; exact eq_comm, show decide (b = i) = decide (i = b) by rw [decide_eq_decide]; exact eq_comm]
open K04 in
theorem c_is_lock_seen (o : SOk W S) (h2 : W.things.length ≤ 1000) {l : Lock} (hl : LockOk W l) : call prog cst (n + 5) "is_lock_seen" false [W.d, S.d, l.d] g = some (.sh (.bool (lockSeenB W S l)), g) := by
  rw [u_is_lock_seen]
  cases l with
  | box b =>
    have hlt := kind_lt (show kindAt W b = some .box from hl)
    simp_arith [F_is_lock_seen, Lock.d, lockSeenB, c_is_seen o h2 hlt]
  | door k =>
    obtain ⟨x, hx⟩ := get_some (show k < W.doors.length from hl)
    simp_arith [F_is_lock_seen, Lock.d, lockSeenB, hx, c_is_bright o h2]
    cases brightB W S <;> simp_arith [Bool.false_and, Bool.true_and, in_int2]
/-! the law's own -/
theorem in_place {p : Place} {ys : List D} : inD p.d (.tuple ys) = some (ys.any fun z => PyData.eqv z p.d) := by
  unfold inD; dsimp only
  rw [if_pos (Or.inl (Nat.le_trans p.depth (by decide)))]
open K04 in
theorem c_near (o : SOk W S) (h2 : W.things.length ≤ 1000) {t : Nat} (ht : t < W.things.length) : call prog cst (n + 2) "_law_near" false [W.d, S.d, .int t] g = some (.sh (.bool (nearB W S t)), g) := by
  obtain ⟨p, hp⟩ := get_some (show t < S.places.length by rw [o.np]; exact ht)
  have hheld : PyData.tuple [.str (Str.ofString "held")] = Place.held.d := rfl
  have hroom : PyData.tuple [.str (Str.ofString "room"), .int (S.room : Nat)] = (Place.room S.room).d := rfl
  rw [u_law_near]
  simp_arith [F_law_near, hp, nearB]
  cases p with
  | held =>
    simp_arith [Place.d]
    simp_arith [hheld, hroom, in_place, Bool.true_or]
  | gone =>
    have hg : PyData.tuple [.str (Str.ofString "gone")] = Place.gone.d := rfl
    simp_arith [Place.d]
    simp_arith [hheld, hroom, hg, in_place]
    rfl
  | room r =>
    simp_arith [Place.d]
    simp_arith [hheld, hroom, show PyData.tuple [.str (Str.ofString "room"), .int (r : Nat)] = (Place.room r).d from rfl, in_place]
    simp
    exact eq_comm
  | box b =>
    obtain ⟨r, hr⟩ := box_room o (show kindAt W b = some .box from o.pl t _ hp)
    have hk : LockOk W (.box b) := o.pl t _ hp
    obtain ⟨x, hx⟩ := get_some (lock_lt o hk)
    simp_arith [Place.d, hr]
    simp_arith [hroom, show PyData.tuple [.str (Str.ofString "room"), .int (r : Nat)] = (Place.room r).d from rfl, Option.some.injEq]
    have hl := fun (g : G) => c_law_lock (n := n) (g := g) (lock_hyp h2 hk)
    simp only [Lock.d] at hl
    cases decide (Place.room r = Place.room S.room) <;> simp_arith [hl, hx, Option.some.injEq, Bool.false_and, Bool.true_and]
open K04 in
theorem c_law_bright (o : SOk W S) (h2 : W.things.length ≤ 1000) : call prog cst (n + 3) "_law_bright" false [W.d, S.d] g = some (.sh (.bool (brightB W S)), g) := by
  obtain ⟨r, hr⟩ := get_some o.room
  have hl : lightB W S = r.2 := by unfold lightB; rw [hr]
  rw [u_law_bright]
  simp_arith [F_law_bright]
  rw [ev_lc (α := Nat) intD (fun k => decide (kindAt W k = some .lamp) && (decide (S.lits[lampNo W k]? = some true) && nearB W S k)) intD (xs := List.range W.things.length) (vi := .ow ((List.range W.things.length).map intD)) ?_ rfl ?_]
  · simp_arith [hr, light_D, light_eq, Bool.decide_eq_true]
    unfold brightB
    rw [hl]
    cases r.2 with
    | true => simp_arith [Bool.true_or]
    | false =>
      simp_arith [Bool.false_or]
      have e : ∀ xs : List D, Pu.eqD (.list xs) (.list []) = some xs.isEmpty := fun xs => by
        rw [eqD_small' (by simp [PyData.depth, PyData.depthAll])]
        cases xs <;> rfl
      simp_arith [e, Option.map_some]
      congr 4
      rw [Bool.eq_iff_iff]
      unfold lampL
      simp [List.any_filter]
  · simp_arith [List.length_map, kR1r_eq (show W.things.length ≤ 16777216 by omega)]; rfl
  · intro k hk
    have hk := List.mem_range.mp hk
    obtain ⟨x, hx⟩ := get_some hk
    refine ⟨_, rfl, ?_, fun _ => ⟨_, rfl, rfl⟩⟩
    simp_arith [intD, hx, kind_of hx, Option.some.injEq]
    cases hd : decide (x.kind = .lamp) with
    | false => simp_arith [Bool.false_and]
    | true =>
      have hlk : kindAt W k = some .lamp := by rw [kind_of hx, of_decide_eq_true hd]
      obtain ⟨b, hb⟩ := get_some (lamp_lt o hlk)
      simp_arith [Bool.true_and, c_law_lamp (Nat.le_of_lt hk) h2, hb, Option.some.injEq, Bool.decide_eq_true]
      cases b <;> simp_arith [Bool.true_and, Bool.false_and, c_near o h2 hk]
theorem isi_intt {i : Int} : isiD (.int i) .tuple = false := rfl
open K04 in
theorem c_sees (o : SOk W S) (h2 : W.things.length ≤ 1000) {t : Nat} (ht : t < W.things.length) : call prog cst (n + 4) "_law_sees" false [W.d, S.d, .int t] g = some (.sh (.bool (seenB W S t)), g) := by
  obtain ⟨p, hp⟩ := get_some (show t < S.places.length by rw [o.np]; exact ht)
  have hheld : PyData.tuple [.str (Str.ofString "held")] = Place.held.d := rfl
  rw [u_law_sees]
  simp_arith [F_law_sees, isi_intt, hp, hheld, seenB, Option.some.injEq]
  cases decide (p = .held) with
  | true => simp_arith [Bool.true_or]
  | false =>
    simp_arith [Bool.false_or, c_near o h2 ht]
    cases nearB W S t <;> simp_arith [Bool.false_and, Bool.true_and, c_law_bright o h2]
open K04 in
theorem c_sees_lock (o : SOk W S) (h2 : W.things.length ≤ 1000) {l : Lock} (hl : LockOk W l) : call prog cst (n + 5) "_law_sees" false [W.d, S.d, l.d] g = some (.sh (.bool (lockSeenB W S l)), g) := by
  rw [u_law_sees]
  cases l with
  | box b =>
    have hlt := kind_lt (show kindAt W b = some .box from hl)
    simp_arith [F_law_sees, Lock.d, lockSeenB, isi_tup, c_sees o h2 hlt]
  | door k =>
    obtain ⟨x, hx⟩ := get_some (show k < W.doors.length from hl)
    simp_arith [F_law_sees, Lock.d, lockSeenB, isi_tup, hx, c_law_bright o h2]
    cases brightB W S <;> simp_arith [Bool.false_and, Bool.true_and, hx, in_int2]
end
end Pu.Tw
set_option Elab.async false
set_option maxRecDepth 100000
set_option maxHeartbeats 4000000
set_option linter.all false
/-! M7: ends, rows of things, what sight is checked for. -/
namespace Pu.Tw
open PySem L2 Pu.St
local macro_rules | `(tactic| simp_arith [$ls,*] $[$loc]?) => `(tactic| simp only [ev_nil, ev_cons, kC1_eq, kC0_eq, kC2_eq, ev_nm, nmV_eq, ev_int, ev_str, ev_bl, ev_non, ev_gl, ev_tu, ev_li, kLi_eq, kB1_eq, kB0_eq, kB2_eq, ev_bi, ev_cm, fBi_eq, fCm_eq, ev_ch, fCh_eq, kCh_t, kCh_f, ev_neg, kNeg_eq, ev_an, ev_or, kAn_t, kAn_f, kOr_t, kOr_f, ev_no, kNo_eq, evT_eq, kT_eq, kT_ow, ev_ie, kIe_t, kIe_f, ev_ix, kIx_eq, kIx2_sh, kIx2_bw, kIx2_ow, kIx2_od, kIx2_bd, ev_sl, kSl_eq, kSl0_eq, kSl1_eq, kSl2_eq, pO_nil, pO_int, pO_nm, pO_bi, pO_ix, pO_bf, kPO_eq, ev_ca, kCa_n, evR_nil, evR_cons, kR1_eq, kR0_eq, ev_bf, kBf_eq, ev_me, kMe_eq, kMe2_eq, ev_isi, kIsi_sh, ev_r1, ev_l1, ev_r2, kR2r_eq, ex_nop, ex_seq, kS_nx, kS_rt, kS_br, kS_ct, ex_as, kAs_sh, kAs_ow, kAs_od, ex_par, evP_nil, evP_cons, kP1_eq, kP0_eq, ex_up, ex_if, kIf_t, kIf_f, ex_re, kRe_sh, kRe_ow, kRe_bw, ex_ap, ex_ex, ex_fz, fzV_ow, fzV_sh, kAp_sh, kAp_ow, apV_ow, kEx_ow, kEx_bw, exV_ow, ex_fo, ex_rn, share_sh, share_ow, rd_sh, rd_ow, rd_bw, bo_sh, bo_ow, bo_od, keep_sh, keep_ow, lst_ow, lst_bw, kF_rt, kF_nx, List.getElem?_cons_zero, List.getElem?_cons_succ, Option.bind_some, Option.map_some, List.set_cons_zero, List.set_cons_succ, String.reduceEq, decide_false, decide_true, Bool.not_true, Bool.not_false, cm_eq, cm_ne, cm_in, cm_nin, cm_is, cm_isn, eqD_str, eqD_str', eqD_int, eqD_int', eqv_str, eqv_int, ofString_inj, in_tup, in_lst, ix_0, ix_1, ix_2, ix_map, ix_mapL, W1, W2, W3, W4, W5, W6, W7, W8, W9, W10, W11, W12, S0, S1, S2, S3, S4, S5, S6, T2, T3, T4, D1, D3, D4, D5, len_tup, len_lst, bi_add, Kind.eq_box, Kind.eq_lamp, Kind.eq_thing, Kind.eq_fixed, LS.eq, LS.eq_open, LS.eq_closed, LS.eq_locked, lit_eq, on_eq, wipeE, Tg.slots, bindTg, Place.eqD, Place.eqv, Lock.eqv, List.any_cons, List.any_nil, z0, z1, cm_lt, cm_le, cm_gt, cm_ge, bi_sub, Int.natCast_inj, $ls,*] $[$loc]?)

section
variable {W : World} {S : State} {g : G} {n : Nat}
theorem dpt_map {α : Type} (f : α → D) (m : Nat) : ∀ (xs : List α), (∀ x ∈ xs, (f x).depth ≤ m) → PyData.depthAll (xs.map f) ≤ m
  | [], _ => Nat.zero_le _
  | x :: xs, h => by
    rw [List.map_cons, PyData.depthAll]
    exact Nat.max_le.mpr ⟨h x List.mem_cons_self, dpt_map f m xs fun y hy => h y (List.mem_cons_of_mem _ hy)⟩
theorem pl_map {α : Type} (f : α → D) : ∀ (xs : List α), (∀ x ∈ xs, (f x).plain = true) → PyData.plainAll (xs.map f) = true
  | [], _ => rfl
  | x :: xs, h => by
    rw [List.map_cons, PyData.plainAll, h x List.mem_cons_self, pl_map f xs fun y hy => h y (List.mem_cons_of_mem _ hy)]
    rfl
theorem eqD_self {x : D} (h1 : x.depth ≤ 100) (h2 : x.plain = true) : Pu.eqD x x = some true := by
  rw [eqD_small h1, PySem.SeqAt.eqv_refl_plain x h2]
theorem eqD_selfL {α : Type} (f : α → D) (xs : List α) (h1 : ∀ x, (f x).depth ≤ 10) (h2 : ∀ x, (f x).plain = true) : Pu.eqD (.list (xs.map f)) (.list (xs.map f)) = some true :=
  eqD_self (by rw [PyData.depth]; have := dpt_map f 10 xs fun x _ => h1 x; omega) (by rw [PyData.plain]; exact pl_map f xs fun x _ => h2 x)
def boolD (b : Bool) : D := .bool b
theorem int_dp (k : Nat) : (intD k).depth ≤ 10 := by simp [intD, PyData.depth]
theorem int_pl (k : Nat) : (intD k).plain = true := rfl
theorem bool_dp (k : Bool) : (boolD k).depth ≤ 10 := by simp [boolD, PyData.depth]
theorem bool_pl (k : Bool) : (boolD k).plain = true := rfl
/-! ### ends -/
structure EndOk (W : World) : Prop where
  win : CondOk W W.win
  lose : CondOk W W.lose
  hw : W.win.ht ≤ 4
  hl : W.lose.ht ≤ 4
  t4 : W.things.length ≤ 4
  d1 : W.doors.length ≤ 1
  r4 : W.rooms.length ≤ 4
theorem EndOk.k (e : EndOk W) : W.things.length ≤ 1000 := by have := e.t4; omega
def wonB (W : World) (S : State) : Bool := holdsP W S W.win
def lostB (W : World) (S : State) : Bool := holdsP W S W.lose && !holdsP W S W.win
open K04 in
theorem c_is_won (o : SOk W S) (e : EndOk W) : call prog cst (n + 8) "is_won" false [W.d, S.d] g = some (.sh (.bool (wonB W S)), g) := by
  rw [u_is_won]
  simp_arith [F_is_won, c_holds o e.k W.win g (n + 4) e.win (by have := e.hw; omega), wonB]
open K04 in
theorem c_is_lost (o : SOk W S) (e : EndOk W) : call prog cst (n + 9) "is_lost" false [W.d, S.d] g = some (.sh (.bool (lostB W S)), g) := by
  rw [u_is_lost]
  simp_arith [F_is_lost, c_holds o e.k W.lose g (n + 5) e.lose (by have := e.hl; omega), lostB]
  cases holdsP W S W.lose <;> simp_arith [Bool.false_and, Bool.true_and, c_is_won o e, wonB]
open K04 in
theorem c_is_over (o : SOk W S) (e : EndOk W) : call prog cst (n + 10) "is_over" false [W.d, S.d] g = some (.sh (.bool (wonB W S || lostB W S)), g) := by
  rw [u_is_over]
  simp_arith [F_is_over, c_is_won o e]
  cases wonB W S <;> simp_arith [Bool.false_or, Bool.true_or, c_is_lost o e]
def endS (W : World) (S : State) : Str := if wonB W S then "won" else if holdsP W S W.lose then "lost" else "on"
open K04 in
theorem c_law_end (o : SOk W S) (e : EndOk W) : call prog cst (n + 7) "_law_end" false [W.d, S.d] g = some (.sh (.str (endS W S)), g) := by
  rw [u_law_end]
  have k1 := c_law_holds o e.k W.win g (n + 4) e.win (by have := e.hw; omega)
  have k2 := c_law_holds o e.k W.lose g (n + 4) e.lose (by have := e.hl; omega)
  simp_arith [F_law_end, k1, k2, endS, wonB]
  rcases Bool.eq_false_or_eq_true (holdsP W S W.win) with h | h <;> simp_arith [h, k1, k2, if_true, Bool.false_eq_true, if_false]
  rcases Bool.eq_false_or_eq_true (holdsP W S W.lose) with h | h <;> simp_arith [h, if_true, Bool.false_eq_true, if_false]
/-! ### rows of things -/
def allT (W : World) : List Nat := List.range W.things.length
theorem mem_allT {k : Nat} (h : k ∈ allT W) : k < W.things.length := List.mem_range.mp h
theorem rng_T (e : EndOk W) {ρ : Env} {c : Cf} {x : E} (h : ev c x ρ g = some (.sh (.int W.things.length), g)) : ev c (.r1 x) ρ g = some (.ow ((allT W).map intD), g) := by
  rw [ev_r1, h, Option.bind_some, kR1r_eq (by have := e.t4; omega)]
  rfl
open K04 in
theorem c_seen (o : SOk W S) (e : EndOk W) : call prog cst (n + 5) "seen" false [W.d, S.d] g = some (.ow (((allT W).filter (seenB W S)).map intD), g) := by
  rw [u_seen]
  simp_arith [F_seen]
  rw [ev_lc (α := Nat) intD (seenB W S) intD (xs := allT W) (vi := .ow ((allT W).map intD)) (rng_T e ?_) rfl ?_]
  · simp_arith []
  · simp_arith [List.length_map]
  · intro k hk
    refine ⟨_, rfl, ?_, fun _ => ⟨.sh (intD k), by simp_arith [], rfl⟩⟩
    simp_arith [intD, c_is_seen o e.k (mem_allT hk)]
def atP (S : State) (p : Place) (k : Nat) : Bool := decide (S.places[k]? = some p)
theorem held_d : PyData.tuple [.str (Str.ofString "held")] = Place.held.d := rfl
theorem box_d {b : Nat} : PyData.tuple [.str (Str.ofString "box"), .int (b : Nat)] = (Place.box b).d := rfl
theorem room_d {b : Nat} : PyData.tuple [.str (Str.ofString "room"), .int (b : Nat)] = (Place.room b).d := rfl
open K04 in
theorem c_held (o : SOk W S) (e : EndOk W) : call prog cst (n + 1) "held" false [W.d, S.d] g = some (.ow (((allT W).filter (atP S .held)).map intD), g) := by
  rw [u_held]
  simp_arith [F_held]
  rw [ev_lc (α := Nat) intD (atP S .held) intD (xs := allT W) (vi := .ow ((allT W).map intD)) (rng_T e ?_) rfl ?_]
  · simp_arith []
  · simp_arith [List.length_map]
  · intro k hk
    obtain ⟨p, hp⟩ := get_some (show k < S.places.length by rw [o.np]; exact mem_allT hk)
    refine ⟨_, rfl, ?_, fun _ => ⟨.sh (intD k), by simp_arith [], rfl⟩⟩
    simp_arith [intD, hp, held_d, atP, Option.some.injEq]
open K04 in
theorem c_inside (o : SOk W S) (e : EndOk W) {b : Nat} : call prog cst (n + 1) "inside" false [W.d, S.d, .int b] g = some (.ow (((allT W).filter (atP S (.box b))).map intD), g) := by
  rw [u_inside]
  simp_arith [F_inside]
  rw [ev_lc (α := Nat) intD (atP S (.box b)) intD (xs := allT W) (vi := .ow ((allT W).map intD)) (rng_T e ?_) rfl ?_]
  · simp_arith []
  · simp_arith [List.length_map]
  · intro k hk
    obtain ⟨p, hp⟩ := get_some (show k < S.places.length by rw [o.np]; exact mem_allT hk)
    refine ⟨_, rfl, ?_, fun _ => ⟨.sh (intD k), by simp_arith [], rfl⟩⟩
    simp_arith [intD, hp, box_d, atP, Option.some.injEq]
open K04 in
theorem c_lying (o : SOk W S) (e : EndOk W) {b : Nat} : call prog cst (n + 1) "lying" false [W.d, S.d, .int b] g = some (.ow (((allT W).filter (atP S (.room b))).map intD), g) := by
  rw [u_lying]
  simp_arith [F_lying]
  rw [ev_lc (α := Nat) intD (atP S (.room b)) intD (xs := allT W) (vi := .ow ((allT W).map intD)) (rng_T e ?_) rfl ?_]
  · simp_arith []
  · simp_arith [List.length_map]
  · intro k hk
    obtain ⟨p, hp⟩ := get_some (show k < S.places.length by rw [o.np]; exact mem_allT hk)
    refine ⟨_, rfl, ?_, fun _ => ⟨.sh (intD k), by simp_arith [], rfl⟩⟩
    simp_arith [intD, hp, room_d, atP, Option.some.injEq]
open K04 in
theorem c_lock_state (o : SOk W S) (e : EndOk W) {l : Lock} {x : LS} (hl : LockOk W l) (hx : S.locks[lockNo W l]? = some x) : call prog cst (n + 2) "lock_state" false [W.d, S.d, l.d] g = some (.sh (.str x.s), g) := by
  rw [u_lock_state]
  simp_arith [F_lock_state, c_lock_number (lock_hyp e.k hl), hx]
/-- boxes, counted from the left, are numbered one after another -/
theorem count_range (p : Nat → Bool) : ∀ n : Nat, ((List.range n).filter p).map (fun b => ((List.range b).filter p).length) = List.range ((List.range n).filter p).length
  | 0 => rfl
  | n + 1 => by
    have ih := count_range p n
    rw [List.range_succ, List.filter_append, List.map_append, ih, List.length_append]
    cases hp : p n with
    | true => simp [List.filter_cons, hp, List.range_succ]
    | false => simp [List.filter_cons, hp]
theorem box_ok {l : Lock} (h : l ∈ locksL W) : LockOk W l := by
  unfold locksL at h
  rcases List.mem_append.mp h with h | h
  · obtain ⟨k, hk, rfl⟩ := List.mem_map.mp h
    exact List.mem_range.mp hk
  · obtain ⟨k, hk, rfl⟩ := List.mem_map.mp h
    show kindAt W k = some .box
    simpa using (List.mem_filter.mp hk).2
theorem locks_no : (locksL W).map (lockNo W) = List.range (W.doors.length + W.boxes W.things.length) := by
  unfold locksL
  rw [List.map_append, List.map_map, List.map_map]
  have e1 : (List.range W.doors.length).map (lockNo W ∘ Lock.door) = List.range W.doors.length := by
    rw [show lockNo W ∘ Lock.door = id from rfl, List.map_id]
  have e2 : (boxL W).map (lockNo W ∘ Lock.box) = (List.range (W.boxes W.things.length)).map (W.doors.length + ·) := by
    have h := count_range (fun k => decide ((W.things[k]?).map Thing.kind = some .box)) W.things.length
    have h2 : (boxL W).map (fun b => W.boxes b) = List.range (W.boxes W.things.length) := h
    rw [← h2, List.map_map]
    rfl
  rw [e1, e2, ← List.range_add]
theorem range_get {α : Type} (xs : List α) : (List.range xs.length).map (fun k => xs[k]?) = xs.map some := by
  apply List.ext_getElem
  · simp
  · intro i h1 h2
    simp at h1 ⊢
theorem locks_all (o : SOk W S) : (locksL W).map (fun l => S.locks[lockNo W l]?) = S.locks.map some := by
  have h : (locksL W).map (fun l => S.locks[lockNo W l]?) = ((locksL W).map (lockNo W)).map (fun k => S.locks[k]?) := by rw [List.map_map]; rfl
  rw [h, locks_no, ← o.nl, range_get]
end
end Pu.Tw
set_option Elab.async false
set_option maxRecDepth 100000
set_option maxHeartbeats 8000000
set_option linter.all false
/-! M8: the law's sight. -/
namespace Pu.Tw
open PySem L2 Pu.St
local macro_rules | `(tactic| simp_arith [$ls,*] $[$loc]?) => `(tactic| simp only [ev_nil, ev_cons, kC1_eq, kC0_eq, kC2_eq, ev_nm, nmV_eq, ev_int, ev_str, ev_bl, ev_non, ev_gl, ev_tu, ev_li, kLi_eq, kB1_eq, kB0_eq, kB2_eq, ev_bi, ev_cm, fBi_eq, fCm_eq, ev_ch, fCh_eq, kCh_t, kCh_f, ev_neg, kNeg_eq, ev_an, ev_or, kAn_t, kAn_f, kOr_t, kOr_f, ev_no, kNo_eq, evT_eq, kT_eq, kT_ow, ev_ie, kIe_t, kIe_f, ev_ix, kIx_eq, kIx2_sh, kIx2_bw, kIx2_ow, kIx2_od, kIx2_bd, ev_sl, kSl_eq, kSl0_eq, kSl1_eq, kSl2_eq, pO_nil, pO_int, pO_nm, pO_bi, pO_ix, pO_bf, kPO_eq, ev_ca, kCa_n, evR_nil, evR_cons, kR1_eq, kR0_eq, ev_bf, kBf_eq, ev_me, kMe_eq, kMe2_eq, ev_isi, kIsi_sh, ev_r1, ev_l1, ev_r2, kR2r_eq, ex_nop, ex_seq, kS_nx, kS_rt, kS_br, kS_ct, ex_as, kAs_sh, kAs_ow, kAs_od, ex_par, evP_nil, evP_cons, kP1_eq, kP0_eq, ex_up, ex_if, kIf_t, kIf_f, ex_re, kRe_sh, kRe_ow, kRe_bw, ex_ap, ex_ex, ex_fz, fzV_ow, fzV_sh, kAp_sh, kAp_ow, apV_ow, kEx_ow, kEx_bw, exV_ow, ex_fo, ex_rn, share_sh, share_ow, rd_sh, rd_ow, rd_bw, bo_sh, bo_ow, bo_od, keep_sh, keep_ow, lst_ow, lst_bw, kF_rt, kF_nx, List.getElem?_cons_zero, List.getElem?_cons_succ, Option.bind_some, Option.map_some, List.set_cons_zero, List.set_cons_succ, String.reduceEq, decide_false, decide_true, Bool.not_true, Bool.not_false, cm_eq, cm_ne, cm_in, cm_nin, cm_is, cm_isn, eqD_str, eqD_str', eqD_int, eqD_int', eqv_str, eqv_int, ofString_inj, in_tup, in_lst, ix_0, ix_1, ix_2, ix_map, ix_mapL, W1, W2, W3, W4, W5, W6, W7, W8, W9, W10, W11, W12, S0, S1, S2, S3, S4, S5, S6, T2, T3, T4, D1, D3, D4, D5, len_tup, len_lst, bi_add, Kind.eq_box, Kind.eq_lamp, Kind.eq_thing, Kind.eq_fixed, LS.eq, LS.eq_open, LS.eq_closed, LS.eq_locked, lit_eq, on_eq, wipeE, Tg.slots, bindTg, Place.eqD, Place.eqv, Lock.eqv, List.any_cons, List.any_nil, z0, z1, cm_lt, cm_le, cm_gt, cm_ge, bi_sub, Int.natCast_inj, $ls,*] $[$loc]?)

/-- a walk in which nothing ends it -/
theorem fo_pass {α β : Type} (enc : α → D) {body : Env → G → Option (Out × Env × G)} {bind : D → Env → Option Env} {g : G} (inv : Env → Prop) {xs : List α} {ρ : Env} {K : Out × Env × G → Option β} {R : Option β}
    (hK : ∀ ρ', inv ρ' → K (.nx, ρ', g) = R) (hi : inv ρ) (h : ∀ x ∈ xs, ∀ ρ, inv ρ → ∃ ρ1, bind (enc x) ρ = some ρ1 ∧ ∃ ρ2, body ρ1 g = some (.nx, ρ2, g) ∧ inv ρ2) :
    (forLoop body bind (xs.map enc) ρ g).bind K = R := by
  refine fo_find_b enc (fun _ => false) (.sh .none) inv (fun ρ' h' => ?_) hi h
  have e : xs.any (fun _ => false) = false := by simp
  rw [e]
  exact hK ρ' h'
section
variable {W : World} {S : State} {g : G} {n : Nat}
theorem eqD_non : Pu.eqD .none .none = some true := rfl
theorem place_0 {p : Place} : ∃ z, ixD p.d (.int 0) = some (.str z) ∧ (z = Str.ofString "box" ↔ ∃ b, p = .box b) ∧ (z = Str.ofString "room" ↔ ∃ b, p = .room b) := by
  cases p <;> refine ⟨_, rfl, ?_, ?_⟩ <;> simp [ofString_inj]
theorem eqD_bools {b : Bool} : Pu.eqD (.bool b) (.bool b) = some true := by cases b <;> rfl
theorem eqD_bL {α : Type} {p : α → Bool} {xs : List α} : Pu.eqD (.list (xs.map fun k => boolD (p k))) (.list (xs.map fun k => boolD (p k))) = some true :=
  eqD_selfL _ _ (fun _ => bool_dp _) fun _ => bool_pl _
theorem eqD_iL {xs : List Nat} : Pu.eqD (.list (xs.map intD)) (.list (xs.map intD)) = some true := eqD_selfL _ _ int_dp int_pl
theorem ends_eq : Pu.eqD (.list [.bool (wonB W S), .bool (lostB W S), .bool (wonB W S || lostB W S)]) (.list [.bool (decide (endS W S = Str.ofString "won")), .bool (decide (endS W S = Str.ofString "lost")), .bool (!decide (endS W S = Str.ofString "on"))]) = some true := by
  rw [eqD_small (by simp [PyData.depth, PyData.depthAll])]
  unfold endS lostB wonB
  cases holdsP W S W.win <;> cases holdsP W S W.lose <;> simp [PyData.eqv, PyData.eqvAll, ofString_inj]
theorem kOr_x {c : Cf} {b : E} {ρ : Env} : kOr c b ρ (.sh (.bool false), g) = ev c b ρ g := rfl
theorem rng_R (e : EndOk W) {ρ : Env} {c : Cf} {x : E} {m : Nat} (hm : m ≤ 4) (h : ev c x ρ g = some (.sh (.int m), g)) : ev c (.r1 x) ρ g = some (.ow ((List.range m).map intD), g) := by
  rw [ev_r1, h, Option.bind_some, kR1r_eq (by omega)]
  rfl
theorem list_lst {xs : List D} : bfD .list [.list xs] = some (.ow xs) := rfl
theorem list_tup {xs : List D} : bfD .list [.tuple xs] = some (.ow xs) := rfl
def lkD (W : World) (S : State) (l : Lock) : D := match S.locks[lockNo W l]? with
  | some x => .str x.s
  | none => .none
theorem lkD_dp (l : Lock) : (lkD W S l).depth ≤ 10 := by unfold lkD; split <;> simp [PyData.depth]
theorem lkD_pl (l : Lock) : (lkD W S l).plain = true := by unfold lkD; split <;> rfl
theorem eqD_kL {xs : List Lock} : Pu.eqD (.list (xs.map (lkD W S))) (.list (xs.map (lkD W S))) = some true := eqD_selfL _ _ lkD_dp lkD_pl
theorem lkD_all (o : SOk W S) : (locksL W).map (lkD W S) = S.locks.map fun l => PyData.str l.s := by
  have h := congrArg (fun l => l.map fun (x : Option LS) => match x with
    | some x => PyData.str x.s
    | none => .none) (locks_all o)
  simp only [List.map_map] at h
  exact h
def rowD (W : World) (S : State) (r : Nat) : D := .list (((allT W).filter (atP S (.room r))).map intD)
theorem rowD_dp (r : Nat) : (rowD W S r).depth ≤ 20 := by
  unfold rowD
  rw [PyData.depth]
  have := dpt_map intD 10 ((allT W).filter (atP S (.room r))) fun x _ => int_dp x
  omega
theorem rowD_pl (r : Nat) : (rowD W S r).plain = true := by
  unfold rowD
  rw [PyData.plain]
  exact pl_map intD _ fun x _ => rfl
theorem eqD_selfR {xs : List Nat} : Pu.eqD (.list (xs.map (rowD W S))) (.list (xs.map (rowD W S))) = some true :=
  eqD_self (by rw [PyData.depth]; have := dpt_map (rowD W S) 20 xs fun x _ => rowD_dp x; omega) (by rw [PyData.plain]; exact pl_map _ xs fun x _ => rowD_pl x)
theorem things_1 (e : EndOk W) : kR1r (.sh (.int ((W.things.length : Nat) : Int)), g) = some (.ow ((allT W).map intD), g) := by
  rw [kR1r_eq (by have := e.t4; omega)]
  rfl
open K04 in
theorem c_sight (o : SOk W S) (e : EndOk W) : call prog cst (n + 12) "_law_sight" false [W.d, S.d] g = some (.sh (.bool true), g) := by
  rw [u_law_sight]
  simp_arith [F_law_sight, c_law_end o e, c_is_won o e, c_is_lost o e, c_is_over o e, ends_eq, c_is_bright o e.k, c_law_bright o e.k, eqD_bools, List.length_map, things_1 e]
  rw [ev_lc (α := Nat) intD (fun _ => true) (fun k => boolD (seenB W S k)) (xs := allT W) (vi := .sh (.list ((allT W).map intD))) ?_ rfl ?_]
  rotate_left 1
  · simp_arith []
  · intro k hk
    refine ⟨_, rfl, rfl, fun _ => ⟨.sh (boolD (seenB W S k)), ?_, rfl⟩⟩
    simp_arith [intD, c_is_seen o e.k (mem_allT hk), boolD]
  simp_arith []
  rw [ev_lc (α := Nat) intD (fun _ => true) (fun k => boolD (seenB W S k)) (xs := allT W) (vi := .sh (.list ((allT W).map intD))) ?_ rfl ?_]
  rotate_left 1
  · simp_arith []
  · intro k hk
    refine ⟨_, rfl, rfl, fun _ => ⟨.sh (boolD (seenB W S k)), ?_, rfl⟩⟩
    simp_arith [intD, c_sees o e.k (mem_allT hk), boolD]
  simp_arith [filt_true, eqD_bL, c_seen o e]
  rw [ev_lc (α := Nat) intD (seenB W S) intD (xs := allT W) (vi := .sh (.list ((allT W).map intD))) ?_ rfl ?_]
  rotate_left 1
  · simp_arith []
  · intro k hk
    refine ⟨_, rfl, ?_, fun _ => ⟨.sh (intD k), by simp_arith [], rfl⟩⟩
    simp_arith [intD, c_sees o e.k (mem_allT hk)]
  simp_arith [eqD_iL]
  rw [ev_lc (α := Nat) intD (fun k => true) (fun k => (Lock.door k).d) (xs := List.range W.doors.length) (vi := .ow ((List.range W.doors.length).map intD)) (rng_R e (show W.doors.length ≤ 4 by have := e.d1; omega) ?_) rfl ?_]
  rotate_left 1
  · simp_arith [List.length_map]
  · intro k hk
    refine ⟨_, rfl, rfl, fun _ => ⟨.sh (Lock.door k).d, ?_, rfl⟩⟩
    simp_arith [intD]
    rfl
  simp_arith []
  rw [ev_lc (α := Nat) intD (fun k => decide (kindAt W k = some .box)) (fun k => (Lock.box k).d) (xs := allT W) (vi := .sh (.list ((allT W).map intD))) ?_ rfl ?_]
  rotate_left 1
  · simp_arith []
  · intro k hk
    obtain ⟨x, hx⟩ := get_some (mem_allT hk)
    refine ⟨_, rfl, ?_, fun _ => ⟨.sh (Lock.box k).d, ?_, rfl⟩⟩
    · simp_arith [intD, hx, kind_of hx, Option.some.injEq]
    · simp_arith [intD]
      rfl
  have hlk : (((List.range W.doors.length).filter fun k => true).map fun k => (Lock.door k).d) ++ (((allT W).filter fun k => decide (kindAt W k = some .box)).map fun k => (Lock.box k).d) = (locksL W).map Lock.d := by
    rw [filt_true]
    unfold locksL boxL
    rw [List.map_append, List.map_map, List.map_map]
    rfl
  have hb := List.length_filter_le (fun k => decide (kindAt W k = some .box)) (allT W)
  have ht := e.t4
  have hT : (allT W).length = W.things.length := List.length_range
  simp_arith []
  rw [bi_addL (by simp only [filt_true, List.length_map, List.length_range]; rw [sizeLine_eq]; have := e.d1; omega), hlk]
  simp_arith []
  rw [ev_lc (α := Lock) Lock.d (fun _ => true) (fun l => boolD (lockSeenB W S l)) (xs := locksL W) (vi := .sh (.list ((locksL W).map Lock.d))) ?_ rfl ?_]
  rotate_left 1
  · simp_arith []
  · intro l hl
    refine ⟨_, rfl, rfl, fun _ => ⟨.sh (boolD (lockSeenB W S l)), ?_, rfl⟩⟩
    simp_arith [c_is_lock_seen o e.k (box_ok hl), boolD]
  simp_arith []
  rw [ev_lc (α := Lock) Lock.d (fun _ => true) (fun l => boolD (lockSeenB W S l)) (xs := locksL W) (vi := .sh (.list ((locksL W).map Lock.d))) ?_ rfl ?_]
  rotate_left 1
  · simp_arith []
  · intro l hl
    refine ⟨_, rfl, rfl, fun _ => ⟨.sh (boolD (lockSeenB W S l)), ?_, rfl⟩⟩
    simp_arith [c_sees_lock o e.k (box_ok hl), boolD]
  simp_arith [filt_true, eqD_bL]
  rw [ev_lc (α := Lock) Lock.d (fun _ => true) (lkD W S) (xs := locksL W) (vi := .sh (.list ((locksL W).map Lock.d))) ?_ rfl ?_]
  rotate_left 1
  · simp_arith []
  · intro l hl
    obtain ⟨x, hx⟩ := get_some (lock_lt o (box_ok hl))
    refine ⟨_, rfl, rfl, fun _ => ⟨.sh (lkD W S l), ?_, rfl⟩⟩
    simp_arith [c_lock_state o e (box_ok hl) hx, lkD, hx]
  simp_arith [filt_true, list_tup, ← lkD_all o, eqD_kL, c_held o e]
  rw [ev_lc (α := Nat) intD (atP S .held) intD (xs := allT W) (vi := .sh (.list ((allT W).map intD))) ?_ rfl ?_]
  rotate_left 1
  · simp_arith []
  · intro k hk
    obtain ⟨p, hp⟩ := get_some (show k < S.places.length by rw [o.np]; exact mem_allT hk)
    refine ⟨_, rfl, ?_, fun _ => ⟨.sh (intD k), by simp_arith [], rfl⟩⟩
    simp_arith [intD, hp, held_d, atP, Option.some.injEq]
  simp_arith [eqD_iL]
  rw [ev_lc (α := Nat) intD (fun _ => true) (rowD W S) (xs := List.range W.rooms.length) (vi := .ow ((List.range W.rooms.length).map intD)) (rng_R e e.r4 ?_) rfl ?_]
  rotate_left 1
  · simp_arith [List.length_map]
  · intro r hr
    refine ⟨_, rfl, rfl, fun _ => ⟨.ow (((allT W).filter (atP S (.room r))).map intD), ?_, rfl⟩⟩
    simp_arith [intD, c_lying o e]
  simp_arith []
  rw [ev_lc (α := Nat) intD (fun _ => true) (rowD W S) (xs := List.range W.rooms.length) (vi := .ow ((List.range W.rooms.length).map intD)) (rng_R e e.r4 ?_) rfl ?_]
  rotate_left 1
  · simp_arith [List.length_map]
  · intro r hr
    refine ⟨_, rfl, rfl, fun _ => ⟨.ow (((allT W).filter (atP S (.room r))).map intD), ?_, rfl⟩⟩
    refine ev_lc (α := Nat) intD (atP S (.room r)) intD (xs := allT W) (vi := .sh (.list ((allT W).map intD))) ?_ rfl ?_
    · simp_arith []
    · intro k hk
      obtain ⟨p, hp⟩ := get_some (show k < S.places.length by rw [o.np]; exact mem_allT hk)
      refine ⟨_, rfl, ?_, fun _ => ⟨.sh (intD k), by simp_arith [], rfl⟩⟩
      simp_arith [intD, hp, room_d, atP, Option.some.injEq]
  simp_arith [filt_true, eqD_selfR]
  rw [kFo_eq share_sh (show itD _ = some ((locksL W).map Lock.d) from rfl)]
  simp only [Option.bind_assoc]
  refine fo_pass Lock.d (fun ρ => ∃ x, ρ = [some (.sh W.d), some (.sh S.d), some (.sh (.str (endS W S))), some (.sh (.list ((allT W).map intD))), some (.sh (.list ((locksL W).map Lock.d))), x, none, none, none, none]) (fun ρ' hρ => ?_) ⟨none, rfl⟩ fun l hl ρ hρ => ?_
  rotate_left 1
  · obtain ⟨x, rfl⟩ := hρ
    refine ⟨_, rfl, [some (.sh W.d), some (.sh S.d), some (.sh (.str (endS W S))), some (.sh (.list ((allT W).map intD))), some (.sh (.list ((locksL W).map Lock.d))), some (.sh l.d), none, none, none, none], ?_, ⟨_, rfl⟩⟩
    cases l with
    | door k => simp_arith [Lock.d]
    | box b =>
      simp_arith [Lock.d, c_inside o e]
      rw [ev_lc (α := Nat) intD (atP S (.box b)) intD (xs := allT W) (vi := .sh (.list ((allT W).map intD))) ?_ rfl ?_]
      rotate_left 1
      · simp_arith []
      · intro k hk
        obtain ⟨p, hp⟩ := get_some (show k < S.places.length by rw [o.np]; exact mem_allT hk)
        refine ⟨_, rfl, ?_, fun _ => ⟨.sh (intD k), by simp_arith [], rfl⟩⟩
        simp_arith [intD, hp, box_d, atP, Option.some.injEq]
      simp_arith [eqD_iL]
  obtain ⟨x5, rfl⟩ := hρ
  simp_arith []
  rw [kFo_eq share_sh (show itD _ = some ((allT W).map intD) from rfl)]
  simp only [Option.bind_assoc]
  refine fo_pass intD (fun ρ => ∃ x5 x6 x7 x8 x9, ρ = [some (.sh W.d), some (.sh S.d), some (.sh (.str (endS W S))), some (.sh (.list ((allT W).map intD))), some (.sh (.list ((locksL W).map Lock.d))), x5, x6, x7, x8, x9]) (fun ρ' hρ => ?_) ⟨_, _, _, _, _, rfl⟩ fun k hk ρ hρ => ?_
  rotate_left 1
  · obtain ⟨x5, x6, x7, x8, x9, rfl⟩ := hρ
    have hk := mem_allT hk
    obtain ⟨p, hp⟩ := get_some (show k < S.places.length by rw [o.np]; exact hk)
    refine ⟨_, rfl, [some (.sh W.d), some (.sh S.d), some (.sh (.str (endS W S))), some (.sh (.list ((allT W).map intD))), some (.sh (.list ((locksL W).map Lock.d))), x5, some (.sh (intD k)), some (.sh (boolD (shutIn W S k))), some (.sh p.d), some (.sh (optD (roomOf W S k)))], ?_, ⟨_, _, _, _, _, rfl⟩⟩
    simp_arith [intD, hp, kPa_eq, setAll, List.length_cons, List.length_nil, held_d]
    cases p with
    | held =>
      have e1 : roomOf W S k = some S.room := by unfold roomOf; rw [hp]
      have e2 : shutIn W S k = false := by unfold shutIn; rw [hp]
      simp_arith [Place.d, c_room_of o hk, c_is_shut_in o e.k hk, e1, e2, optD, eqD_bools, boolD]
    | gone =>
      have e1 : roomOf W S k = none := by unfold roomOf; rw [hp]
      have e2 : shutIn W S k = false := by unfold shutIn; rw [hp]
      simp_arith [show decide (Place.gone = Place.held) = false from rfl]
      simp_arith [Place.d, c_room_of o hk, c_is_shut_in o e.k hk, e1, e2, optD, eqD_bools, eqD_non, boolD]
    | room r =>
      have e1 : roomOf W S k = some r := by unfold roomOf; rw [hp]
      have e2 : shutIn W S k = false := by unfold shutIn; rw [hp]
      simp_arith [show decide (Place.room r = Place.held) = false from rfl]
      simp_arith [Place.d, c_room_of o hk, c_is_shut_in o e.k hk, e1, e2, optD, eqD_bools, eqD_non, boolD]
    | box b =>
      have hkk : LockOk W (.box b) := o.pl k _ hp
      obtain ⟨r, hr⟩ := box_room o (show kindAt W b = some .box from hkk)
      obtain ⟨x, hx⟩ := get_some (lock_lt o hkk)
      have e1 : roomOf W S k = some r := by unfold roomOf; rw [hp]; dsimp only; rw [hr]
      have e2 : shutIn W S k = !decide (x = .open_) := by unfold shutIn; rw [hp]; dsimp only; rw [hx]; simp
      have hl := fun (g : G) => c_law_lock (n := n + 10) (g := g) (lock_hyp e.k hkk)
      simp only [Lock.d] at hl
      simp_arith [show decide (Place.box b = Place.held) = false from rfl]
      simp_arith [Place.d, hr]
      simp_arith [Place.d, hl, hx, c_room_of o hk, c_is_shut_in o e.k hk, e1, e2, optD, eqD_bools, eqD_non, boolD]
  obtain ⟨x5, x6, x7, x8, x9, rfl⟩ := hρ
  simp_arith []
end
end Pu.Tw
set_option Elab.async false
set_option maxRecDepth 100000
set_option maxHeartbeats 8000000
set_option linter.all false
/-! M9: first states; what is a state. -/
namespace Pu.Tw
open PySem L2 Pu.St
local macro_rules | `(tactic| simp_arith [$ls,*] $[$loc]?) => `(tactic| simp only [ev_nil, ev_cons, kC1_eq, kC0_eq, kC2_eq, ev_nm, nmV_eq, ev_int, ev_str, ev_bl, ev_non, ev_gl, ev_tu, ev_li, kLi_eq, kB1_eq, kB0_eq, kB2_eq, ev_bi, ev_cm, fBi_eq, fCm_eq, ev_ch, fCh_eq, kCh_t, kCh_f, ev_neg, kNeg_eq, ev_an, ev_or, kAn_t, kAn_f, kOr_t, kOr_f, ev_no, kNo_eq, evT_eq, kT_eq, kT_ow, ev_ie, kIe_t, kIe_f, ev_ix, kIx_eq, kIx2_sh, kIx2_bw, kIx2_ow, kIx2_od, kIx2_bd, ev_sl, kSl_eq, kSl0_eq, kSl1_eq, kSl2_eq, pO_nil, pO_int, pO_nm, pO_bi, pO_ix, pO_bf, kPO_eq, ev_ca, kCa_n, evR_nil, evR_cons, kR1_eq, kR0_eq, ev_bf, kBf_eq, ev_me, kMe_eq, kMe2_eq, ev_isi, kIsi_sh, ev_r1, ev_l1, ev_r2, kR2r_eq, ex_nop, ex_seq, kS_nx, kS_rt, kS_br, kS_ct, ex_as, kAs_sh, kAs_ow, kAs_od, ex_par, evP_nil, evP_cons, kP1_eq, kP0_eq, ex_up, ex_if, kIf_t, kIf_f, ex_re, kRe_sh, kRe_ow, kRe_bw, ex_ap, ex_ex, ex_fz, fzV_ow, fzV_sh, kAp_sh, kAp_ow, apV_ow, kEx_ow, kEx_bw, exV_ow, ex_fo, ex_rn, share_sh, share_ow, rd_sh, rd_ow, rd_bw, bo_sh, bo_ow, bo_od, keep_sh, keep_ow, lst_ow, lst_bw, kF_rt, kF_nx, List.getElem?_cons_zero, List.getElem?_cons_succ, Option.bind_some, Option.map_some, List.set_cons_zero, List.set_cons_succ, String.reduceEq, decide_false, decide_true, Bool.not_true, Bool.not_false, cm_eq, cm_ne, cm_in, cm_nin, cm_is, cm_isn, eqD_str, eqD_str', eqD_int, eqD_int', eqv_str, eqv_int, ofString_inj, in_tup, in_lst, ix_0, ix_1, ix_2, ix_map, ix_mapL, W1, W2, W3, W4, W5, W6, W7, W8, W9, W10, W11, W12, S0, S1, S2, S3, S4, S5, S6, T2, T3, T4, D1, D3, D4, D5, len_tup, len_lst, bi_add, Kind.eq_box, Kind.eq_lamp, Kind.eq_thing, Kind.eq_fixed, LS.eq, LS.eq_open, LS.eq_closed, LS.eq_locked, lit_eq, on_eq, wipeE, Tg.slots, bindTg, Place.eqD, Place.eqv, Lock.eqv, List.any_cons, List.any_nil, z0, z1, cm_lt, cm_le, cm_gt, cm_ge, bi_sub, Int.natCast_inj, $ls,*] $[$loc]?)

section
variable {W : World} {S : State} {g : G} {n : Nat}
theorem tup_lst {xs : List D} : bfD .tuple [.list xs] = some (.sh (.tuple xs)) := rfl
theorem tup_tup {xs : List D} : bfD .tuple [.tuple xs] = some (.sh (.tuple xs)) := rfl
def stAt (W : World) (k : Nat) : LS := match W.things[k]? with
  | some t => t.st
  | none => .open_
def litAt (W : World) (k : Nat) : Bool := match W.things[k]? with
  | some t => t.lit
  | none => false
def startS (W : World) : State := ⟨W.start, W.things.map Thing.place, W.doors.map Door.st ++ (boxL W).map (stAt W), (lampL W).map (litAt W), W.mark0, W.count0⟩
theorem ix_filter {α β γ : Type} [DecidableEq γ] (xs : List α) (f : α → γ) (c : γ) (h : Option α → β) : ((List.range xs.length).filter fun k => decide ((xs[k]?).map f = some c)).map (fun k => h xs[k]?) = (xs.filter fun x => decide (f x = c)).map fun x => h (some x) := by
  have e1 : ((List.range xs.length).filter fun k => decide ((xs[k]?).map f = some c)).map (fun k => h xs[k]?) = ((((List.range xs.length).map fun k => xs[k]?)).filter fun o => decide (o.map f = some c)).map h := by
    rw [List.filter_map, List.map_map]
    rfl
  rw [e1, range_get, List.filter_map, List.map_map]
  congr 1
  congr 1
  funext x
  simp
theorem box_sts : (boxL W).map (stAt W) = (W.things.filter fun t => decide (t.kind = .box)).map Thing.st := by
  have h := ix_filter W.things Thing.kind .box (fun o => match o with
    | some t => t.st
    | none => LS.open_)
  exact h
theorem lamp_lits : (lampL W).map (litAt W) = (W.things.filter fun t => decide (t.kind = .lamp)).map Thing.lit := by
  have h := ix_filter W.things Thing.kind .lamp (fun o => match o with
    | some t => t.lit
    | none => false)
  exact h
theorem box_mem {k : Nat} (h : k ∈ boxL W) : kindAt W k = some .box := by simpa using (List.mem_filter.mp h).2
theorem box_thing {k : Nat} (h : kindAt W k = some .box) : ∃ t, W.things[k]? = some t ∧ t.kind = .box ∧ ixD t.ex (.int 1) = some (.str t.st.s) ∧ stAt W k = t.st := by
  obtain ⟨t, ht⟩ := get_some (kind_lt h)
  have hk : t.kind = .box := by rw [kind_of ht] at h; exact Option.some.inj h
  refine ⟨t, ht, hk, ?_, by unfold stAt; rw [ht]⟩
  unfold Thing.ex
  rw [hk]
  rfl
theorem lamp_thing {k : Nat} (h : kindAt W k = some .lamp) : ∃ t, W.things[k]? = some t ∧ t.kind = .lamp ∧ t.ex = .str (litS t.lit) ∧ litAt W k = t.lit := by
  obtain ⟨t, ht⟩ := get_some (kind_lt h)
  have hk : t.kind = .lamp := by rw [kind_of ht] at h; exact Option.some.inj h
  refine ⟨t, ht, hk, ?_, by unfold litAt; rw [ht]⟩
  unfold Thing.ex
  rw [hk]
theorem M6d {b : Bool} : W.marksD = .tuple [.tuple [.str "bell", .str (onS W.mark0)]] := rfl
theorem start_len (e : EndOk W) : W.doors.length + (boxL W).length ≤ 5 := by
  have := boxL_len (W := W)
  have := e.t4
  have := e.d1
  omega
def lsD (l : LS) : D := .str l.s
def ltD2 (b : Bool) : D := .str (litS b)
theorem S_d : S.d = .tuple [.str "state", .int S.room, .tuple (S.places.map Place.d), .tuple (S.locks.map lsD), .tuple (S.lits.map ltD2), .tuple [.str (onS S.mark)], .tuple [.int S.count]] := rfl
open K04 in
theorem c_start (e : EndOk W) : call prog cst (n + 2) "start" false [W.d] g = some (.sh (startS W).d, g) := by
  have hl := start_len e
  rw [u_start]
  simp_arith [F_start]
  rw [ev_lc (α := Thing) Thing.d (fun _ => true) (fun t => t.place.d) (xs := W.things) (vi := .sh (.tuple (W.things.map Thing.d))) ?_ rfl ?_]
  rotate_left 1
  · simp_arith []
  · intro t ht
    refine ⟨_, rfl, rfl, fun _ => ⟨.sh t.place.d, ?_, rfl⟩⟩
    simp_arith []
  simp_arith [filt_true, tup_lst]
  rw [ev_lc (α := Door) Door.d (fun _ => true) (fun t => lsD t.st) (xs := W.doors) (vi := .sh (.tuple (W.doors.map Door.d))) ?_ rfl ?_]
  rotate_left 1
  · simp_arith []
  · intro t ht
    refine ⟨_, rfl, rfl, fun _ => ⟨.sh (lsD t.st), ?_, rfl⟩⟩
    simp_arith []
    rfl
  simp_arith [filt_true]
  rw [ev_lc (α := Nat) intD (fun _ => true) (fun k => lsD (stAt W k)) (xs := boxL W) (vi := .ow ((boxL W).map intD)) ?_ rfl ?_]
  rotate_left 1
  · simp_arith [c_boxes e.k]
  · intro k hk
    obtain ⟨t, h1, h2, h3, h4⟩ := box_thing (box_mem hk)
    refine ⟨_, rfl, rfl, fun _ => ⟨.sh (lsD (stAt W k)), ?_, rfl⟩⟩
    simp_arith [intD, h1, h3, h4]
    rfl
  simp_arith [filt_true]
  rw [bi_addL (by rw [List.length_map, List.length_map, sizeLine_eq]; omega)]
  simp_arith [tup_lst]
  rw [ev_lc (α := Nat) intD (fun _ => true) (fun k => ltD2 (litAt W k)) (xs := lampL W) (vi := .ow ((lampL W).map intD)) ?_ rfl ?_]
  rotate_left 1
  · simp_arith [c_lamps e.k]
  · intro k hk
    obtain ⟨t, h1, h2, h3, h4⟩ := lamp_thing (lamp_mem hk)
    refine ⟨_, rfl, rfl, fun _ => ⟨.sh (ltD2 (litAt W k)), ?_, rfl⟩⟩
    simp_arith [intD, h1, h3, h4]
    rfl
  simp_arith [filt_true, tup_lst]
  rw [ev_lc (α := Unit) (fun _ => .tuple [.str "bell", .str (onS W.mark0)]) (fun _ => true) (fun _ => .str (onS W.mark0)) (xs := [()]) (vi := .sh W.marksD) ?_ rfl ?_]
  rotate_left 1
  · simp_arith []
  · intro k hk
    refine ⟨_, rfl, rfl, fun _ => ⟨.sh (.str (onS W.mark0)), ?_, rfl⟩⟩
    simp_arith []
  simp_arith [filt_true, tup_lst]
  rw [ev_lc (α := Unit) (fun _ => .tuple [.str "oil", .int W.count0]) (fun _ => true) (fun _ => .int W.count0) (xs := [()]) (vi := .sh W.countsD) ?_ rfl ?_]
  rotate_left 1
  · simp_arith []
  · intro k hk
    refine ⟨_, rfl, rfl, fun _ => ⟨.sh (.int W.count0), ?_, rfl⟩⟩
    simp_arith []
  simp_arith [filt_true, tup_lst, kPa_eq, setAll, List.length_cons, List.length_nil]
  rw [S_d]
  unfold startS
  simp only [List.map_append, List.map_map]
  rfl
open K04 in
theorem c_law_start (e : EndOk W) : call prog cst (n + 2) "_law_start" false [W.d] g = some (.sh (startS W).d, g) := by
  have hl := start_len e
  have hbl : ((W.things.filter fun t => decide (t.kind = .box)).map fun t => lsD t.st).length = (boxL W).length := by
    have := congrArg List.length (box_sts (W := W))
    rw [List.length_map, List.length_map] at this
    rw [List.length_map, this]
  rw [u_law_start]
  simp_arith [F_law_start]
  rw [ev_lc (α := Thing) Thing.d (fun t => decide (t.kind = .box)) Thing.d (xs := W.things) (vi := .sh (.tuple (W.things.map Thing.d))) ?_ rfl ?_]
  rotate_left 1
  · simp_arith []
  · intro t ht
    refine ⟨_, rfl, ?_, fun _ => ⟨.sh t.d, ?_, rfl⟩⟩
    · simp_arith []
    · simp_arith []
  simp_arith []
  rw [ev_lc (α := Door) Door.d (fun _ => true) (fun t => lsD t.st) (xs := W.doors) (vi := .sh (.tuple (W.doors.map Door.d))) ?_ rfl ?_]
  rotate_left 1
  · simp_arith []
  · intro t ht
    refine ⟨_, rfl, rfl, fun _ => ⟨.sh (lsD t.st), ?_, rfl⟩⟩
    simp_arith []
    rfl
  simp_arith [filt_true]
  rw [ev_lc (α := Thing) Thing.d (fun t => true) (fun t => lsD t.st) (xs := W.things.filter fun t => decide (t.kind = .box)) (vi := .sh (.list ((W.things.filter fun t => decide (t.kind = .box)).map Thing.d))) ?_ rfl ?_]
  rotate_left 1
  · simp_arith []
  · intro t ht
    have hk : t.kind = .box := by simpa using (List.mem_filter.mp ht).2
    have hx : ixD t.ex (.int 1) = some (lsD t.st) := by unfold Thing.ex; rw [hk]; rfl
    refine ⟨_, rfl, rfl, fun _ => ⟨.sh (lsD t.st), ?_, rfl⟩⟩
    simp_arith [hx]
  simp_arith [filt_true]
  rw [bi_addL (by rw [List.length_map, hbl, sizeLine_eq]; omega)]
  simp_arith [tup_lst]
  rw [ev_lc (α := Thing) Thing.d (fun t => decide (t.kind = .lamp)) (fun t => ltD2 t.lit) (xs := W.things) (vi := .sh (.tuple (W.things.map Thing.d))) ?_ rfl ?_]
  rotate_left 1
  · simp_arith []
  · intro t ht
    refine ⟨_, rfl, ?_, fun hk => ⟨.sh (ltD2 t.lit), ?_, rfl⟩⟩
    · simp_arith []
    · have hx : t.ex = ltD2 t.lit := by unfold Thing.ex; rw [of_decide_eq_true hk]; rfl
      simp_arith [hx]
  simp_arith [tup_lst]
  rw [ev_lc (α := Thing) Thing.d (fun _ => true) (fun t => t.place.d) (xs := W.things) (vi := .sh (.tuple (W.things.map Thing.d))) ?_ rfl ?_]
  rotate_left 1
  · simp_arith []
  · intro t ht
    refine ⟨_, rfl, rfl, fun _ => ⟨.sh t.place.d, ?_, rfl⟩⟩
    simp_arith []
  simp_arith [filt_true, tup_lst]
  rw [ev_lc (α := Unit) (fun _ => .tuple [.str "bell", .str (onS W.mark0)]) (fun _ => true) (fun _ => .str (onS W.mark0)) (xs := [()]) (vi := .sh W.marksD) ?_ rfl ?_]
  rotate_left 1
  · simp_arith []
  · intro k hk
    refine ⟨_, rfl, rfl, fun _ => ⟨.sh (.str (onS W.mark0)), ?_, rfl⟩⟩
    simp_arith []
  simp_arith [filt_true, tup_lst]
  rw [ev_lc (α := Unit) (fun _ => .tuple [.str "oil", .int W.count0]) (fun _ => true) (fun _ => .int W.count0) (xs := [()]) (vi := .sh W.countsD) ?_ rfl ?_]
  rotate_left 1
  · simp_arith []
  · intro k hk
    refine ⟨_, rfl, rfl, fun _ => ⟨.sh (.int W.count0), ?_, rfl⟩⟩
    simp_arith []
  simp_arith [filt_true, tup_lst]
  rw [S_d]
  unfold startS
  rw [box_sts, lamp_lits]
  simp only [List.map_append, List.map_map]
  rfl
theorem S_depth : S.d.depth ≤ 10 := by
  rw [S_d]
  simp only [PyData.depth, PyData.depthAll]
  have h1 := dpt_map Place.d 2 S.places fun p _ => p.depth
  have h2 := dpt_map lsD 0 S.locks fun p _ => by simp [lsD, PyData.depth]
  have h3 := dpt_map ltD2 0 S.lits fun p _ => by simp [ltD2, PyData.depth]
  omega
theorem S_plain : S.d.plain = true := by
  rw [S_d]
  simp only [PyData.plain, PyData.plainAll]
  rw [pl_map Place.d S.places fun p _ => by cases p <;> rfl, pl_map lsD S.locks fun _ _ => rfl, pl_map ltD2 S.lits fun _ _ => rfl]
  rfl
theorem eqD_S : Pu.eqD S.d S.d = some true := eqD_self (Nat.le_trans S_depth (by decide)) S_plain
end
end Pu.Tw
set_option Elab.async false
set_option maxRecDepth 100000
set_option maxHeartbeats 8000000
set_option linter.all false
/-! M10: what is a state. -/
namespace Pu.Tw
open PySem L2 Pu.St
local macro_rules | `(tactic| simp_arith [$ls,*] $[$loc]?) => `(tactic| simp only [ev_nil, ev_cons, kC1_eq, kC0_eq, kC2_eq, ev_nm, nmV_eq, ev_int, ev_str, ev_bl, ev_non, ev_gl, ev_tu, ev_li, kLi_eq, kB1_eq, kB0_eq, kB2_eq, ev_bi, ev_cm, fBi_eq, fCm_eq, ev_ch, fCh_eq, kCh_t, kCh_f, ev_neg, kNeg_eq, ev_an, ev_or, kAn_t, kAn_f, kOr_t, kOr_f, ev_no, kNo_eq, evT_eq, kT_eq, kT_ow, ev_ie, kIe_t, kIe_f, ev_ix, kIx_eq, kIx2_sh, kIx2_bw, kIx2_ow, kIx2_od, kIx2_bd, ev_sl, kSl_eq, kSl0_eq, kSl1_eq, kSl2_eq, pO_nil, pO_int, pO_nm, pO_bi, pO_ix, pO_bf, kPO_eq, ev_ca, kCa_n, evR_nil, evR_cons, kR1_eq, kR0_eq, ev_bf, kBf_eq, ev_me, kMe_eq, kMe2_eq, ev_isi, kIsi_sh, ev_r1, ev_l1, ev_r2, kR2r_eq, ex_nop, ex_seq, kS_nx, kS_rt, kS_br, kS_ct, ex_as, kAs_sh, kAs_ow, kAs_od, ex_par, evP_nil, evP_cons, kP1_eq, kP0_eq, ex_up, ex_if, kIf_t, kIf_f, ex_re, kRe_sh, kRe_ow, kRe_bw, ex_ap, ex_ex, ex_fz, fzV_ow, fzV_sh, kAp_sh, kAp_ow, apV_ow, kEx_ow, kEx_bw, exV_ow, ex_fo, ex_rn, share_sh, share_ow, rd_sh, rd_ow, rd_bw, bo_sh, bo_ow, bo_od, keep_sh, keep_ow, lst_ow, lst_bw, kF_rt, kF_nx, List.getElem?_cons_zero, List.getElem?_cons_succ, Option.bind_some, Option.map_some, List.set_cons_zero, List.set_cons_succ, String.reduceEq, decide_false, decide_true, Bool.not_true, Bool.not_false, cm_eq, cm_ne, cm_in, cm_nin, cm_is, cm_isn, eqD_str, eqD_str', eqD_int, eqD_int', eqv_str, eqv_int, ofString_inj, in_tup, in_lst, ix_0, ix_1, ix_2, ix_map, ix_mapL, W1, W2, W3, W4, W5, W6, W7, W8, W9, W10, W11, W12, S0, S1, S2, S3, S4, S5, S6, T2, T3, T4, D1, D3, D4, D5, len_tup, len_lst, bi_add, Kind.eq_box, Kind.eq_lamp, Kind.eq_thing, Kind.eq_fixed, LS.eq, LS.eq_open, LS.eq_closed, LS.eq_locked, lit_eq, on_eq, wipeE, Tg.slots, bindTg, Place.eqD, Place.eqv, Lock.eqv, List.any_cons, List.any_nil, z0, z1, cm_lt, cm_le, cm_gt, cm_ge, bi_sub, Int.natCast_inj, $ls,*] $[$loc]?)

section
variable {W : World} {S : State} {g : G} {n : Nat}
def sizesL (W : World) : List Nat := [W.things.length, (locksL W).length, (lampL W).length, 1, 1]
open K04 in
theorem c_sizes (e : EndOk W) : call prog cst (n + 3) "sizes" false [W.d] g = some (.ow ((sizesL W).map intD), g) := by
  rw [u_sizes]
  simp_arith [F_sizes, List.length_map, c_locks e.k (show W.doors.length ≤ 1000 by have := e.d1; omega), c_lamps e.k, World.marksD, World.countsD, List.length_cons, List.length_nil, kLi_eq, sizesL, List.map_cons, List.map_nil]
  rfl
theorem all_bools {α : Type} (p : α → Bool) (xs : List α) : bfD .all [.list (xs.map fun x => PyData.bool (p x))] = some (.sh (.bool (xs.all p))) := by
  have h : ∀ xs : List α, boolsD (xs.map fun x => PyData.bool (p x)) = some (xs.map p) := by
    intro xs
    induction xs with
    | nil => rfl
    | cons x xs ih => simp only [List.map_cons, boolsD, ih, Option.map_some]
  show (boolsD _).map _ = _
  rw [h]
  simp only [Option.map_some, List.all_map]
  rfl
def cnD : Int ⊕ Bool → D
  | .inl i => .int i
  | .inr b => .bool b
def cnB : Int ⊕ Bool → Bool
  | .inl i => decide (0 ≤ i) && decide (i ≤ 99)
  | .inr _ => false
open K04 in
theorem c_is_whole_cn {c : Int ⊕ Bool} {hi : Int} : call prog cst (n + 1) "is_whole" false [cnD c, .int 0, .int hi] g = some (.sh (.bool (match c with
    | .inl i => decide (0 ≤ i) && decide (i ≤ hi)
    | .inr _ => false)), g) := by
  cases c with
  | inl i => exact c_is_whole
  | inr b => cases b <;> kernel_rfl
/-- a value of the form of a state -/
structure Raw where
  room : Int ⊕ Bool
  places : List Place
  locks : List Str
  lits : List Str
  marks : List Str
  counts : List (Int ⊕ Bool)
def Raw.parts (v : Raw) : List (List D) := [v.places.map Place.d, v.locks.map .str, v.lits.map .str, v.marks.map .str, v.counts.map cnD]
def Raw.d (v : Raw) : D := .tuple (.str "state" :: cnD v.room :: v.parts.map .tuple)
def Raw.sizes (v : Raw) : List Nat := [v.places.length, v.locks.length, v.lits.length, v.marks.length, v.counts.length]
def plB (W : World) (v : Raw) (k : Nat) : Bool := match v.places[k]? with
  | some p => placeB W p && mayB W k p
  | none => false
def inB (ws : List Str) (x : Str) : Bool := ws.any fun z => decide (z = x)
def Raw.okB (W : World) (v : Raw) : Bool :=
  (match v.room with
    | .inl i => decide (0 ≤ i) && decide (i ≤ (W.rooms.length : Int) - 1)
    | .inr _ => false) && (decide (v.sizes = sizesL W) && ((allT W).all (plB W v) && (v.locks.all (inB ["open", "closed", "locked"]) && (v.lits.all (inB ["lit", "out"]) && (v.marks.all (inB ["on", "off"]) && v.counts.all cnB)))))
theorem V1 {v : Raw} : ixD v.d (.int 1) = some (cnD v.room) := rfl
theorem V0 {v : Raw} : ixD v.d (.int 0) = some (.str "state") := rfl
theorem V2 {v : Raw} : ixD v.d (.int 2) = some (.tuple (v.places.map Place.d)) := rfl
theorem V3 {v : Raw} : ixD v.d (.int 3) = some (.tuple (v.locks.map .str)) := rfl
theorem V4 {v : Raw} : ixD v.d (.int 4) = some (.tuple (v.lits.map .str)) := rfl
theorem V5 {v : Raw} : ixD v.d (.int 5) = some (.tuple (v.marks.map .str)) := rfl
theorem V6 {v : Raw} : ixD v.d (.int 6) = some (.tuple (v.counts.map cnD)) := rfl
theorem Vs {v : Raw} : slD v.d (some 2) none = some (.sh (.tuple (v.parts.map .tuple))) := rfl
theorem Vi {v : Raw} : isiD v.d .tuple = true := rfl
theorem Vl' {v : Raw} : bfD .len [v.d] = some (.sh (.int 7)) := rfl
theorem ints_eqv : ∀ (xs ys : List Nat), PyData.eqvAll (xs.map intD) (ys.map intD) = decide (xs = ys)
  | [], [] => rfl
  | [], _ :: _ => rfl
  | _ :: _, [] => rfl
  | x :: xs, y :: ys => by
    rw [List.map_cons, List.map_cons, PyData.eqvAll, ints_eqv xs ys]
    simp only [intD, eqv_int]
    rw [Bool.eq_iff_iff]
    simp
    intro _
    omega
theorem ints_eq {xs ys : List Nat} : Pu.eqD (.list (xs.map intD)) (.list (ys.map intD)) = some (decide (xs = ys)) := by
  rw [eqD_small (by rw [PyData.depth]; have := dpt_map intD 10 xs fun x _ => int_dp x; omega), PyData.eqv, ints_eqv]
open K04 in
theorem c_one_row {ws : List Str} {x : Str} : call prog cst (n + 1) "is_one_of" false [.str x, .tuple (ws.map .str)] g = some (.sh (.bool (inB ws x)), g) := by
  rw [c_is_one_of]
  unfold inB
  rw [List.any_map]
  congr 4
theorem cst_S' : K04.cst (Str.ofString "STATES") = some (.sh (.tuple ((["open", "closed", "locked"] : List Str).map .str))) := by kernel_rfl
theorem cst_M' : K04.cst (Str.ofString "MOST_COUNT") = some (.sh (.int 99)) := by kernel_rfl
open K04 in
theorem c_is_state_raw (e : EndOk W) (v : Raw) (hl : v.places.length = W.things.length ∨ v.sizes ≠ sizesL W) : call prog cst (n + 4) "is_state" false [W.d, v.d] g = some (.sh (.bool (v.okB W)), g) := by
  rw [u_is_state]
  simp_arith [F_is_state, Vi, Vl', V0, V1, List.length_map, c_is_whole_cn]
  unfold Raw.okB
  generalize hr : (match v.room with
    | .inl i => decide (0 ≤ i) && decide (i ≤ (W.rooms.length : Int) - 1)
    | .inr _ => false) = rb
  cases rb with
  | false => simp_arith [Bool.false_and]
  | true =>
    simp_arith [Bool.true_and]
    rw [ev_lc (α := List D) PyData.tuple (fun _ => true) (fun _ => PyData.bool true) (xs := v.parts) (vi := .sh (.tuple (v.parts.map .tuple))) ?_ rfl ?_]
    rotate_left 1
    · simp_arith [Vs]
    · intro xs hx
      exact ⟨_, rfl, rfl, fun _ => ⟨.sh (.bool true), rfl, rfl⟩⟩
    simp_arith [filt_true, all_bools (fun _ => true), show (v.parts.all fun _ => true) = true from rfl]
    rw [ev_lc (α := List D) PyData.tuple (fun _ => true) (fun xs => intD xs.length) (xs := v.parts) (vi := .sh (.tuple (v.parts.map .tuple))) ?_ rfl ?_]
    rotate_left 1
    · simp_arith [Vs]
    · intro xs hx
      refine ⟨_, rfl, rfl, fun _ => ⟨.sh (intD xs.length), ?_, rfl⟩⟩
      simp_arith []
      rfl
    have hsz : (v.parts.map fun xs => intD xs.length) = v.sizes.map intD := by
      unfold Raw.parts Raw.sizes
      simp only [List.map_cons, List.map_nil, List.length_map]
    simp_arith [filt_true, c_sizes e, hsz, ints_eq]
    by_cases hs : v.sizes = sizesL W
    · have hpl : v.places.length = W.things.length := by
        rcases hl with hl | hl
        · exact hl
        · exact absurd hs hl
      rw [decide_eq_true hs]
      simp_arith [Bool.true_and, List.length_map, things_1 e]
      rw [kFo_eq share_ow (show itD _ = some ((allT W).map intD) from rfl)]
      simp only [Option.bind_assoc]
      refine fo_find_b intD (fun k => !plB W v k) (.sh (.bool false)) (fun ρ => ∃ x, ρ = [some (.sh W.d), some (.sh v.d), x, none, none]) (fun ρ' hρ => ?_) ⟨none, rfl⟩ fun k hk ρ hρ => ?_
      · obtain ⟨x, rfl⟩ := hρ
        have hany : ((allT W).any fun k => !plB W v k) = !(allT W).all (plB W v) := by
          rw [List.all_eq_not_any_not]
          simp
        rw [hany]
        cases (allT W).all (plB W v) with
        | false => simp_arith [if_true, Bool.false_and]
        | true =>
          simp_arith [Bool.true_and, if_false, Bool.false_eq_true]
          rw [ev_lc (α := Str) PyData.str (fun _ => true) (fun x => PyData.bool (inB ["open", "closed", "locked"] x)) (xs := v.locks) (vi := .sh (.tuple (v.locks.map .str))) ?_ rfl ?_]
          rotate_left 1
          · simp_arith [V3]
          · intro x hx
            refine ⟨_, rfl, rfl, fun _ => ⟨.sh (.bool (inB ["open", "closed", "locked"] x)), ?_, rfl⟩⟩
            simp_arith [cst_S', c_one_row]
          simp_arith [filt_true, all_bools]
          cases v.locks.all (inB ["open", "closed", "locked"]) with
          | false => simp_arith [Bool.false_and]
          | true =>
            simp_arith [Bool.true_and]
            rw [ev_lc (α := Str) PyData.str (fun _ => true) (fun x => PyData.bool (inB ["lit", "out"] x)) (xs := v.lits) (vi := .sh (.tuple (v.lits.map .str))) ?_ rfl ?_]
            rotate_left 1
            · simp_arith [V4]
            · intro x hx
              refine ⟨_, rfl, rfl, fun _ => ⟨.sh (.bool (inB ["lit", "out"] x)), ?_, rfl⟩⟩
              have h := fun (g : G) => c_one_row (n := n + 2) (g := g) (ws := ["lit", "out"]) (x := x)
              simp only [List.map_cons, List.map_nil] at h
              simp_arith [h]
            simp_arith [filt_true, all_bools]
            cases v.lits.all (inB ["lit", "out"]) with
            | false => simp_arith [Bool.false_and]
            | true =>
              simp_arith [Bool.true_and]
              rw [ev_lc (α := Str) PyData.str (fun _ => true) (fun x => PyData.bool (inB ["on", "off"] x)) (xs := v.marks) (vi := .sh (.tuple (v.marks.map .str))) ?_ rfl ?_]
              rotate_left 1
              · simp_arith [V5]
              · intro x hx
                refine ⟨_, rfl, rfl, fun _ => ⟨.sh (.bool (inB ["on", "off"] x)), ?_, rfl⟩⟩
                have h := fun (g : G) => c_one_row (n := n + 2) (g := g) (ws := ["on", "off"]) (x := x)
                simp only [List.map_cons, List.map_nil] at h
                simp_arith [h]
              simp_arith [filt_true, all_bools]
              cases v.marks.all (inB ["on", "off"]) with
              | false => simp_arith [Bool.false_and]
              | true =>
                simp_arith [Bool.true_and]
                rw [ev_lc (α := Int ⊕ Bool) cnD (fun _ => true) (fun x => PyData.bool (cnB x)) (xs := v.counts) (vi := .sh (.tuple (v.counts.map cnD))) ?_ rfl ?_]
                rotate_left 1
                · simp_arith [V6]
                · intro x hx
                  refine ⟨_, rfl, rfl, fun _ => ⟨.sh (.bool (cnB x)), ?_, rfl⟩⟩
                  simp_arith [cst_M', c_is_whole_cn]
                  cases x <;> rfl
                simp_arith [filt_true, all_bools]
      · obtain ⟨x, rfl⟩ := hρ
        have hk := mem_allT hk
        obtain ⟨p, hp⟩ := get_some (show k < v.places.length by omega)
        refine ⟨_, rfl, [some (.sh W.d), some (.sh v.d), some (.sh (intD k)), none, none], ?_, ⟨_, rfl⟩⟩
        simp_arith [intD, V2, hp, c_is_place, plB]
        cases placeB W p <;> simp_arith [Bool.false_and, Bool.true_and, Bool.false_eq_true, if_true, if_false, V2, hp, c_may_be hk]
        cases mayB W k p <;> simp_arith [Bool.false_eq_true, if_true, if_false]
    · rw [decide_eq_false hs]
      simp_arith [Bool.false_and]
end
end Pu.Tw
set_option Elab.async false
set_option maxRecDepth 100000
set_option maxHeartbeats 8000000
set_option linter.all false
/-! M11: states are told apart from what is bent. -/
namespace Pu.Tw
open PySem L2 Pu.St
local macro_rules | `(tactic| simp_arith [$ls,*] $[$loc]?) => `(tactic| simp only [ev_nil, ev_cons, kC1_eq, kC0_eq, kC2_eq, ev_nm, nmV_eq, ev_int, ev_str, ev_bl, ev_non, ev_gl, ev_tu, ev_li, kLi_eq, kB1_eq, kB0_eq, kB2_eq, ev_bi, ev_cm, fBi_eq, fCm_eq, ev_ch, fCh_eq, kCh_t, kCh_f, ev_neg, kNeg_eq, ev_an, ev_or, kAn_t, kAn_f, kOr_t, kOr_f, ev_no, kNo_eq, evT_eq, kT_eq, kT_ow, ev_ie, kIe_t, kIe_f, ev_ix, kIx_eq, kIx2_sh, kIx2_bw, kIx2_ow, kIx2_od, kIx2_bd, ev_sl, kSl_eq, kSl0_eq, kSl1_eq, kSl2_eq, pO_nil, pO_int, pO_nm, pO_bi, pO_ix, pO_bf, kPO_eq, ev_ca, kCa_n, evR_nil, evR_cons, kR1_eq, kR0_eq, ev_bf, kBf_eq, ev_me, kMe_eq, kMe2_eq, ev_isi, kIsi_sh, ev_r1, ev_l1, ev_r2, kR2r_eq, ex_nop, ex_seq, kS_nx, kS_rt, kS_br, kS_ct, ex_as, kAs_sh, kAs_ow, kAs_od, ex_par, evP_nil, evP_cons, kP1_eq, kP0_eq, ex_up, ex_if, kIf_t, kIf_f, ex_re, kRe_sh, kRe_ow, kRe_bw, ex_ap, ex_ex, ex_fz, fzV_ow, fzV_sh, kAp_sh, kAp_ow, apV_ow, kEx_ow, kEx_bw, exV_ow, ex_fo, ex_rn, share_sh, share_ow, rd_sh, rd_ow, rd_bw, bo_sh, bo_ow, bo_od, keep_sh, keep_ow, lst_ow, lst_bw, kF_rt, kF_nx, List.getElem?_cons_zero, List.getElem?_cons_succ, Option.bind_some, Option.map_some, List.set_cons_zero, List.set_cons_succ, String.reduceEq, decide_false, decide_true, Bool.not_true, Bool.not_false, cm_eq, cm_ne, cm_in, cm_nin, cm_is, cm_isn, eqD_str, eqD_str', eqD_int, eqD_int', eqv_str, eqv_int, ofString_inj, in_tup, in_lst, ix_0, ix_1, ix_2, ix_map, ix_mapL, W1, W2, W3, W4, W5, W6, W7, W8, W9, W10, W11, W12, S0, S1, S2, S3, S4, S5, S6, T2, T3, T4, D1, D3, D4, D5, len_tup, len_lst, bi_add, Kind.eq_box, Kind.eq_lamp, Kind.eq_thing, Kind.eq_fixed, LS.eq, LS.eq_open, LS.eq_closed, LS.eq_locked, lit_eq, on_eq, wipeE, Tg.slots, bindTg, Place.eqD, Place.eqv, Lock.eqv, List.any_cons, List.any_nil, z0, z1, cm_lt, cm_le, cm_gt, cm_ge, bi_sub, Int.natCast_inj, $ls,*] $[$loc]?)

/-- a walk, the draws aside -/
theorem fo_invb {α β : Type} (enc : α → D) {body : Env → G → Option (Out × Env × G)} {bind : D → Env → Option Env} {g : G} (inv : Nat → Env → Prop) {xs : List α} {ρ : Env} {K : Out × Env × G → Option β} {R : Option β}
    (hK : ∀ ρ', inv xs.length ρ' → K (.nx, ρ', g) = R) (hi : inv 0 ρ) (h : ∀ i, ∀ x ∈ xs, ∀ ρ, i < xs.length → inv i ρ → ∃ ρ1, bind (enc x) ρ = some ρ1 ∧ ∃ ρ2, body ρ1 g = some (.nx, ρ2, g) ∧ inv (i + 1) ρ2) :
    (forLoop body bind (xs.map enc) ρ g).bind K = R := by
  have key : ∀ (ys : List α) (i : Nat) (ρ : Env), (∀ y ∈ ys, y ∈ xs) → i + ys.length = xs.length → inv i ρ → ∃ ρ', forLoop body bind (ys.map enc) ρ g = some (.nx, ρ', g) ∧ inv xs.length ρ' := by
    intro ys
    induction ys with
    | nil => intro i ρ _ hl hi; exact ⟨ρ, rfl, by rw [← hl]; exact hi⟩
    | cons y ys ih =>
      intro i ρ hm hl hi
      rw [List.length_cons] at hl
      obtain ⟨ρ1, h1, ρ2, h2, h3⟩ := h i y (hm y List.mem_cons_self) ρ (by omega) hi
      obtain ⟨ρ', h4, h5⟩ := ih (i + 1) ρ2 (fun z hz => hm z (List.mem_cons_of_mem _ hz)) (by omega) h3
      refine ⟨ρ', ?_, h5⟩
      rw [List.map_cons]
      simp only [forLoop, h1, h2, Option.bind_eq_bind, Option.bind_some]
      exact h4
  obtain ⟨ρ', h1, h2⟩ := key xs 0 ρ (fun _ h => h) (by omega) hi
  rw [h1]
  exact hK ρ' h2
section
variable {W : World} {S : State} {g : G} {n : Nat}
theorem lsD_eq : lsD = fun l => PyData.str l.s := rfl
def rawS (S : State) : Raw := ⟨.inl S.room, S.places, S.locks.map LS.s, S.lits.map litS, [onS S.mark], [.inl S.count]⟩
theorem locks_d (xs : List LS) : (xs.map LS.s).map PyData.str = xs.map lsD := by rw [List.map_map]; rfl
theorem lits_d (xs : List Bool) : (xs.map litS).map PyData.str = xs.map ltD2 := by rw [List.map_map]; rfl
theorem raw_d : (rawS S).d = S.d := by
  unfold Raw.d Raw.parts rawS
  simp only [locks_d, lits_d]
  rfl
theorem locksL_len : (locksL W).length = W.doors.length + W.boxes W.things.length := by
  have h := congrArg List.length (locks_no (W := W))
  rw [List.length_map, List.length_range] at h
  exact h
theorem lampL_len : (lampL W).length = lampNo W W.things.length := rfl
theorem sizes_ok (o : SOk W S) : (rawS S).sizes = sizesL W := by
  unfold Raw.sizes rawS sizesL
  simp only [List.length_map, List.length_cons, List.length_nil, o.np, o.nl, o.nt, locksL_len, lampL_len]
theorem inB_ls (l : LS) : inB ["open", "closed", "locked"] l.s = true := by cases l <;> simp [inB, LS.s]
theorem inB_lit (b : Bool) : inB ["lit", "out"] (litS b) = true := by cases b <;> simp [inB, litS]
theorem inB_on (b : Bool) : inB ["on", "off"] (onS b) = true := by cases b <;> simp [inB, onS]
theorem pl_ok (o : SOk W S) {k : Nat} {p : Place} (h : S.places[k]? = some p) : (placeB W p && mayB W k p) = true := by
  have hk : k < W.things.length := by
    rw [← o.np]
    rcases List.getElem?_eq_some_iff.mp h with ⟨z, _⟩
    exact z
  obtain ⟨t, ht⟩ := get_some hk
  rw [placeB_ok (o.pl k p h), Bool.true_and]
  unfold mayB
  rw [kind_of ht]
  cases hkd : t.kind with
  | thing => simp
  | lamp => simp
  | fixed =>
    obtain ⟨r, rfl⟩ := o.fx k p h (.inr (by rw [kind_of ht, hkd]))
    simp
  | box =>
    obtain ⟨r, rfl⟩ := o.fx k p h (.inl (by rw [kind_of ht, hkd]))
    simp
open K04 in
theorem c_is_state_ok (o : SOk W S) (e : EndOk W) : call prog cst (n + 4) "is_state" false [W.d, S.d] g = some (.sh (.bool true), g) := by
  rw [← raw_d (S := S), c_is_state_raw e (rawS S) (.inl o.np)]
  have hr := o.room
  have hc := o.cnt
  have : (rawS S).okB W = true := by
    unfold Raw.okB
    rw [show decide ((rawS S).sizes = sizesL W) = true from decide_eq_true (sizes_ok o)]
    simp only [Bool.and_eq_true, Bool.true_and, List.all_eq_true]
    refine ⟨?_, ?_, ?_, ?_, ?_, ?_⟩
    · simp only [rawS, Bool.and_eq_true, decide_eq_true_eq]
      omega
    · intro k hk
      obtain ⟨p, hp⟩ := get_some (show k < S.places.length by rw [o.np]; exact mem_allT hk)
      unfold plB
      rw [show (rawS S).places[k]? = some p from hp]
      exact pl_ok o hp
    · intro x hx
      obtain ⟨l, _, rfl⟩ := List.mem_map.mp hx
      exact inB_ls l
    · intro x hx
      obtain ⟨l, _, rfl⟩ := List.mem_map.mp hx
      exact inB_lit l
    · intro x hx
      cases List.mem_singleton.mp hx
      exact inB_on _
    · intro x hx
      cases List.mem_singleton.mp hx
      simp only [cnB, Bool.and_eq_true, decide_eq_true_eq]
      omega
  rw [this]
/-! ### what is none -/
def Bad (W : World) (v : D) : Prop := ∀ (g : G) (n : Nat), call K04.prog K04.cst (n + 4) "is_state" false [W.d, v] g = some (.sh (.bool false), g)
theorem bad_raw (e : EndOk W) {v : Raw} (h : v.okB W = false) (hl : v.places.length = W.things.length ∨ v.sizes ≠ sizesL W) : Bad W v.d := fun g n => by
  rw [c_is_state_raw e v hl, h]
theorem bad_size (e : EndOk W) {v : Raw} (h : v.sizes ≠ sizesL W) : Bad W v.d := bad_raw e (by
  unfold Raw.okB
  rw [decide_eq_false h]
  simp) (.inr h)
theorem bad_none : Bad W .none := fun g n => by kernel_rfl
theorem bad_list {xs : List D} : Bad W (.list xs) := fun g n => by kernel_rfl
theorem bad_6 {a b c d e f : D} : Bad W (.tuple [a, b, c, d, e, f]) := fun g n => by kernel_rfl
theorem bad_8 {a b c d e f x y : D} : Bad W (.tuple [a, b, c, d, e, f, x, y]) := fun g n => by kernel_rfl
theorem bad_st {b c d e f x : D} : Bad W (.tuple [.str "stated", b, c, d, e, f, x]) := fun g n => by kernel_rfl
theorem bad_pl {r : Nat} {xs : List D} {d e f x : D} : Bad W (.tuple [.str "state", .int r, .list xs, d, e, f, x]) := fun g n => by
  have h1 : ∀ y, ixD (.tuple [.str "state", .int r, .list xs, d, e, f, x]) (.int 1) = some y ↔ PyData.int r = y := fun y => by rw [ix_1]; simp
  show call K04.prog K04.cst (n + 4) "is_state" false [W.d, _] g = _
  rw [K04.u_is_state]
  simp_arith [K04.F_is_state, isi_tup, List.length_cons, List.length_nil, List.length_map, c_is_whole]
  simp_arith [show ((0 + 1 + 1 + 1 + 1 + 1 + 1 + 1 : Nat) : Int) = 7 from rfl, List.length_map, c_is_whole]
  cases decide ((0 : Int) ≤ (r : Nat)) && decide (((r : Nat) : Int) ≤ (W.rooms.length : Int) - 1) with
  | false => simp_arith []
  | true =>
    simp_arith []
    rw [ev_lc (α := D) (fun z => z) (fun _ => true) (fun z => PyData.bool (isiD z .tuple)) (xs := [.list xs, d, e, f, x]) (vi := .sh (.tuple [.list xs, d, e, f, x])) ?_ rfl ?_]
    rotate_left 1
    · kernel_rfl
    · intro z hz
      exact ⟨_, rfl, rfl, fun _ => ⟨.sh (.bool (isiD z .tuple)), rfl, rfl⟩⟩
    simp_arith [filt_true, all_bools (fun z => isiD z .tuple), List.all_cons, show isiD (.list xs) .tuple = false from rfl, Bool.false_and]
open K04 in
theorem c_law_put {α : Type} (f : α → D) {xs : List α} {k : Nat} {x : α} (hk : k < xs.length) (hl : xs.length ≤ 1000) : call prog cst (n + 1) "_law_put" false [.tuple (xs.map f), .int k, f x] g = some (.sh (.tuple ((xs.set k x).map f)), g) := by
  have e1 : slD (.tuple (xs.map f)) none (some (k : Int)) = some (.sh (.tuple ((xs.take k).map f))) := by
    show some (Vl.sh (.tuple (cutD (xs.map f) none (some (k : Int))))) = _
    congr 3
    unfold cutD
    have e0 : HT.sIx (xs.map f).length 0 none = 0 := rfl
    have e2 : HT.sIx (xs.map f).length (xs.map f).length (some (k : Int)) = k := by
      unfold HT.sIx
      simp
      rw [if_neg (by omega)]
      omega
    rw [e0, e2, List.drop_zero, Nat.sub_zero, List.map_take]
  have e2 : slD (.tuple (xs.map f)) (some ((k : Int) + 1)) none = some (.sh (.tuple ((xs.drop (k + 1)).map f))) := by
    show some (Vl.sh (.tuple (cutD (xs.map f) (some ((k : Int) + 1)) none))) = _
    congr 3
    unfold cutD
    have e0 : HT.sIx (xs.map f).length (xs.map f).length none = (xs.map f).length := rfl
    have e2 : HT.sIx (xs.map f).length 0 (some ((k : Int) + 1)) = k + 1 := by
      unfold HT.sIx
      simp
      rw [if_neg (by omega)]
      omega
    rw [e0, e2, List.map_drop]
    apply List.take_of_length_le
    rw [List.length_drop]
    omega
  rw [u_law_put]
  simp_arith [F_law_put, e1, e2]
  rw [bi_addT (by rw [sizeLine_eq]; simp; omega)]
  simp_arith [e2]
  rw [bi_addT (by rw [sizeLine_eq]; simp; omega)]
  simp_arith []
  rw [List.set_eq_take_append_cons_drop, if_pos hk]
  simp
theorem raw_room (r : Int ⊕ Bool) : ({ rawS S with room := r } : Raw).d = .tuple [.str "state", cnD r, .tuple (S.places.map Place.d), .tuple (S.locks.map lsD), .tuple (S.lits.map ltD2), .tuple [.str (onS S.mark)], .tuple [.int S.count]] := by
  unfold Raw.d Raw.parts rawS
  simp only [locks_d, lits_d]
  rfl
theorem raw_places (ps : List Place) : ({ rawS S with places := ps } : Raw).d = .tuple [.str "state", .int S.room, .tuple (ps.map Place.d), .tuple (S.locks.map lsD), .tuple (S.lits.map ltD2), .tuple [.str (onS S.mark)], .tuple [.int S.count]] := by
  unfold Raw.d Raw.parts rawS
  simp only [locks_d, lits_d]
  rfl
theorem raw_locks (ls : List Str) : ({ rawS S with locks := ls } : Raw).d = .tuple [.str "state", .int S.room, .tuple (S.places.map Place.d), .tuple (ls.map .str), .tuple (S.lits.map ltD2), .tuple [.str (onS S.mark)], .tuple [.int S.count]] := by
  unfold Raw.d Raw.parts rawS
  simp only [lits_d]
  rfl
theorem raw_lits (ls : List Str) : ({ rawS S with lits := ls } : Raw).d = .tuple [.str "state", .int S.room, .tuple (S.places.map Place.d), .tuple (S.locks.map lsD), .tuple (ls.map .str), .tuple [.str (onS S.mark)], .tuple [.int S.count]] := by
  unfold Raw.d Raw.parts rawS
  simp only [locks_d]
  rfl
theorem raw_marks (ls : List Str) : ({ rawS S with marks := ls } : Raw).d = .tuple [.str "state", .int S.room, .tuple (S.places.map Place.d), .tuple (S.locks.map lsD), .tuple (S.lits.map ltD2), .tuple (ls.map .str), .tuple [.int S.count]] := by
  unfold Raw.d Raw.parts rawS
  simp only [locks_d, lits_d]
  rfl
theorem raw_counts (ls : List (Int ⊕ Bool)) : ({ rawS S with counts := ls } : Raw).d = .tuple [.str "state", .int S.room, .tuple (S.places.map Place.d), .tuple (S.locks.map lsD), .tuple (S.lits.map ltD2), .tuple [.str (onS S.mark)], .tuple (ls.map cnD)] := by
  unfold Raw.d Raw.parts rawS
  simp only [locks_d, lits_d]
  rfl
theorem bad_room (o : SOk W S) (e : EndOk W) {r : Int ⊕ Bool} (h : r = .inl W.rooms.length ∨ ∃ b, r = .inr b) : Bad W (.tuple [.str "state", cnD r, .tuple (S.places.map Place.d), .tuple (S.locks.map lsD), .tuple (S.lits.map ltD2), .tuple [.str (onS S.mark)], .tuple [.int S.count]]) := by
  rw [← raw_room]
  refine bad_raw e ?_ (.inl o.np)
  unfold Raw.okB
  rcases h with rfl | ⟨b, rfl⟩
  · dsimp only
    rw [show decide (((W.rooms.length : Nat) : Int) ≤ (W.rooms.length : Int) - 1) = false from decide_eq_false (by omega)]
    simp
  · simp
theorem bad_places (o : SOk W S) (e : EndOk W) {ps : List Place} (h : ps.length ≠ W.things.length ∨ ∃ k p, ps.length = W.things.length ∧ k < W.things.length ∧ ps[k]? = some p ∧ (placeB W p && mayB W k p) = false) :
    Bad W (.tuple [.str "state", .int S.room, .tuple (ps.map Place.d), .tuple (S.locks.map lsD), .tuple (S.lits.map ltD2), .tuple [.str (onS S.mark)], .tuple [.int S.count]]) := by
  rw [← raw_places]
  rcases h with h | ⟨k, p, h1, h2, h3, h4⟩
  · refine bad_size e fun z => h ?_
    unfold Raw.sizes sizesL at z
    simp only [List.cons.injEq] at z
    exact z.1
  · refine bad_raw e ?_ (.inl h1)
    unfold Raw.okB
    have : (allT W).all (plB W { rawS S with places := ps }) = false := by
      rw [List.all_eq_false]
      refine ⟨k, List.mem_range.mpr h2, ?_⟩
      unfold plB
      rw [show ({ rawS S with places := ps } : Raw).places[k]? = some p from h3]
      dsimp only
      rw [h4]
      decide
    rw [this]
    simp
theorem bad_locks (o : SOk W S) (e : EndOk W) {ls : List Str} (h : ls.length ≠ S.locks.length ∨ ∃ x ∈ ls, inB ["open", "closed", "locked"] x = false) :
    Bad W (.tuple [.str "state", .int S.room, .tuple (S.places.map Place.d), .tuple (ls.map .str), .tuple (S.lits.map ltD2), .tuple [.str (onS S.mark)], .tuple [.int S.count]]) := by
  rw [← raw_locks]
  rcases h with h | ⟨x, h1, h2⟩
  · refine bad_size e fun z => h ?_
    unfold Raw.sizes sizesL at z
    simp only [List.cons.injEq] at z
    rw [z.2.1, locksL_len, o.nl]
  · refine bad_raw e ?_ (.inl o.np)
    unfold Raw.okB
    have : ls.all (inB ["open", "closed", "locked"]) = false := by
      rw [List.all_eq_false]
      exact ⟨x, h1, by rw [h2]; decide⟩
    rw [show ({ rawS S with locks := ls } : Raw).locks = ls from rfl, this]
    simp
theorem bad_lits (o : SOk W S) (e : EndOk W) {ls : List Str} (h : ls.length ≠ S.lits.length) :
    Bad W (.tuple [.str "state", .int S.room, .tuple (S.places.map Place.d), .tuple (S.locks.map lsD), .tuple (ls.map .str), .tuple [.str (onS S.mark)], .tuple [.int S.count]]) := by
  rw [← raw_lits]
  refine bad_size e fun z => h ?_
  unfold Raw.sizes sizesL at z
  simp only [List.cons.injEq] at z
  rw [z.2.2.1, lampL_len, o.nt]
theorem bad_marks (o : SOk W S) (e : EndOk W) : Bad W (.tuple [.str "state", .int S.room, .tuple (S.places.map Place.d), .tuple (S.locks.map lsD), .tuple (S.lits.map ltD2), .tuple [.str "dim"], .tuple [.int S.count]]) := by
  have h := raw_marks (S := S) ["dim"]
  rw [show PyData.tuple [.str (Str.ofString "dim")] = .tuple ((["dim"] : List Str).map .str) from rfl, ← h]
  refine bad_raw e ?_ (.inl o.np)
  unfold Raw.okB
  rw [show (({ rawS S with marks := ["dim"] } : Raw).marks.all (inB ["on", "off"])) = false by simp [inB, ofString_inj]]
  simp
theorem bad_counts (o : SOk W S) (e : EndOk W) {x : Int ⊕ Bool} (h : cnB x = false) : Bad W (.tuple [.str "state", .int S.room, .tuple (S.places.map Place.d), .tuple (S.locks.map lsD), .tuple (S.lits.map ltD2), .tuple [.str (onS S.mark)], .tuple [cnD x]]) := by
  rw [show PyData.tuple [cnD x] = .tuple ([x].map cnD) from rfl, ← raw_counts]
  refine bad_raw e ?_ (.inl o.np)
  unfold Raw.okB
  rw [show (({ rawS S with counts := [x] } : Raw).counts.all cnB) = false by simp [h]]
  simp
end
end Pu.Tw
set_option Elab.async false
set_option maxRecDepth 100000
set_option maxHeartbeats 8000000
set_option linter.all false
/-! M12: the law's bent states. -/
namespace Pu.Tw
open PySem L2 Pu.St
local macro_rules | `(tactic| simp_arith [$ls,*] $[$loc]?) => `(tactic| simp only [ev_nil, ev_cons, kC1_eq, kC0_eq, kC2_eq, ev_nm, nmV_eq, ev_int, ev_str, ev_bl, ev_non, ev_gl, ev_tu, ev_li, kLi_eq, kB1_eq, kB0_eq, kB2_eq, ev_bi, ev_cm, fBi_eq, fCm_eq, ev_ch, fCh_eq, kCh_t, kCh_f, ev_neg, kNeg_eq, ev_an, ev_or, kAn_t, kAn_f, kOr_t, kOr_f, ev_no, kNo_eq, evT_eq, kT_eq, kT_ow, ev_ie, kIe_t, kIe_f, ev_ix, kIx_eq, kIx2_sh, kIx2_bw, kIx2_ow, kIx2_od, kIx2_bd, ev_sl, kSl_eq, kSl0_eq, kSl1_eq, kSl2_eq, pO_nil, pO_int, pO_nm, pO_bi, pO_ix, pO_bf, kPO_eq, ev_ca, kCa_n, evR_nil, evR_cons, kR1_eq, kR0_eq, ev_bf, kBf_eq, ev_me, kMe_eq, kMe2_eq, ev_isi, kIsi_sh, ev_r1, ev_l1, ev_r2, kR2r_eq, ex_nop, ex_seq, kS_nx, kS_rt, kS_br, kS_ct, ex_as, kAs_sh, kAs_ow, kAs_od, ex_par, evP_nil, evP_cons, kP1_eq, kP0_eq, ex_up, ex_if, kIf_t, kIf_f, ex_re, kRe_sh, kRe_ow, kRe_bw, ex_ap, ex_ex, ex_fz, fzV_ow, fzV_sh, kAp_sh, kAp_ow, apV_ow, kEx_ow, kEx_bw, exV_ow, ex_fo, ex_rn, share_sh, share_ow, rd_sh, rd_ow, rd_bw, bo_sh, bo_ow, bo_od, keep_sh, keep_ow, lst_ow, lst_bw, kF_rt, kF_nx, List.getElem?_cons_zero, List.getElem?_cons_succ, Option.bind_some, Option.map_some, List.set_cons_zero, List.set_cons_succ, String.reduceEq, decide_false, decide_true, Bool.not_true, Bool.not_false, cm_eq, cm_ne, cm_in, cm_nin, cm_is, cm_isn, eqD_str, eqD_str', eqD_int, eqD_int', eqv_str, eqv_int, ofString_inj, in_tup, in_lst, ix_0, ix_1, ix_2, ix_map, ix_mapL, W1, W2, W3, W4, W5, W6, W7, W8, W9, W10, W11, W12, S0, S1, S2, S3, S4, S5, S6, T2, T3, T4, D1, D3, D4, D5, len_tup, len_lst, bi_add, Kind.eq_box, Kind.eq_lamp, Kind.eq_thing, Kind.eq_fixed, LS.eq, LS.eq_open, LS.eq_closed, LS.eq_locked, lit_eq, on_eq, wipeE, Tg.slots, bindTg, Place.eqD, Place.eqv, Lock.eqv, List.any_cons, List.any_nil, z0, z1, cm_lt, cm_le, cm_gt, cm_ge, bi_sub, Int.natCast_inj, $ls,*] $[$loc]?)

section
variable {W : World} {S : State} {g : G} {n : Nat}
theorem bi_addTs {xs ys : List D} (h : xs.length + ys.length ≤ 1000) : binD .add (.tuple xs) (.tuple ys) = some (.sh (.tuple (xs ++ ys))) := bi_addT (by rw [sizeLine_eq]; omega)
theorem bi_addLs {xs ys : List D} (h : xs.length + ys.length ≤ 1000) : binD .add (.list xs) (.list ys) = some (.ow (xs ++ ys)) := bi_addL (by rw [sizeLine_eq]; omega)
theorem sl01 : slD S.d none (some 1) = some (.sh (.tuple [.str "state"])) := rfl
theorem sl02 : slD S.d none (some 2) = some (.sh (.tuple [.str "state", .int S.room])) := rfl
theorem sl03 : slD S.d none (some 3) = some (.sh (.tuple [.str "state", .int S.room, .tuple (S.places.map Place.d)])) := rfl
theorem sl04 : slD S.d none (some 4) = some (.sh (.tuple [.str "state", .int S.room, .tuple (S.places.map Place.d), .tuple (S.locks.map lsD)])) := rfl
theorem sl05 : slD S.d none (some 5) = some (.sh (.tuple [.str "state", .int S.room, .tuple (S.places.map Place.d), .tuple (S.locks.map lsD), .tuple (S.lits.map ltD2)])) := rfl
theorem sl06 : slD S.d none (some 6) = some (.sh (.tuple [.str "state", .int S.room, .tuple (S.places.map Place.d), .tuple (S.locks.map lsD), .tuple (S.lits.map ltD2), .tuple [.str (onS S.mark)]])) := rfl
theorem sl1 : slD S.d (some 1) none = some (.sh (.tuple [.int S.room, .tuple (S.places.map Place.d), .tuple (S.locks.map lsD), .tuple (S.lits.map ltD2), .tuple [.str (onS S.mark)], .tuple [.int S.count]])) := rfl
theorem sl2 : slD S.d (some 2) none = some (.sh (.tuple [.tuple (S.places.map Place.d), .tuple (S.locks.map lsD), .tuple (S.lits.map ltD2), .tuple [.str (onS S.mark)], .tuple [.int S.count]])) := rfl
theorem sl3 : slD S.d (some 3) none = some (.sh (.tuple [.tuple (S.locks.map lsD), .tuple (S.lits.map ltD2), .tuple [.str (onS S.mark)], .tuple [.int S.count]])) := rfl
theorem sl4 : slD S.d (some 4) none = some (.sh (.tuple [.tuple (S.lits.map ltD2), .tuple [.str (onS S.mark)], .tuple [.int S.count]])) := rfl
theorem sl5 : slD S.d (some 5) none = some (.sh (.tuple [.tuple [.str (onS S.mark)], .tuple [.int S.count]])) := rfl
theorem sl6 : slD S.d (some 6) none = some (.sh (.tuple [.tuple [.int S.count]])) := rfl
theorem list_S : bfD .list [S.d] = some (.ow [.str "state", .int S.room, .tuple (S.places.map Place.d), .tuple (S.locks.map lsD), .tuple (S.lits.map ltD2), .tuple [.str (onS S.mark)], .tuple [.int S.count]]) := rfl
theorem add_S {xs : List D} (h : xs.length ≤ 100) : binD .add S.d (.tuple xs) = some (.sh (.tuple ([.str "state", .int S.room, .tuple (S.places.map Place.d), .tuple (S.locks.map lsD), .tuple (S.lits.map ltD2), .tuple [.str (onS S.mark)], .tuple [.int S.count]] ++ xs))) := by
  rw [S_d]
  exact bi_addTs (by simp; omega)
theorem S3' : ixD S.d (.int 3) = some (.tuple (S.locks.map lsD)) := rfl
theorem S4' : ixD S.d (.int 4) = some (.tuple (S.lits.map ltD2)) := rfl
theorem eqD_tnil {xs : List D} : Pu.eqD (.tuple xs) (.tuple []) = some xs.isEmpty := by
  rw [eqD_small' (by simp [PyData.depth, PyData.depthAll])]
  cases xs <;> rfl
theorem sl_drop1 {α : Type} (f : α → D) (x : α) (xs : List α) : slD (.tuple ((x :: xs).map f)) (some 1) none = some (.sh (.tuple (xs.map f))) := by
  show some (Vl.sh (.tuple (cutD ((x :: xs).map f) (some 1) none))) = _
  congr 3
  unfold cutD
  have e0 : HT.sIx ((x :: xs).map f).length ((x :: xs).map f).length none = ((x :: xs).map f).length := rfl
  have e2 : HT.sIx ((x :: xs).map f).length 0 (some 1) = 1 := by
    unfold HT.sIx
    simp
  rw [e0, e2, List.length_map, List.map_cons, List.drop_succ_cons, List.drop_zero, List.length_cons, Nat.add_sub_cancel]
  exact List.take_of_length_le (by simp)
theorem isn_ff : isD (.bool false) (.bool false) = some true := rfl
def goneD : D := .tuple [.str "gone"]
def bent14 (W : World) (S : State) : List D :=
  let p2 := PyData.tuple (S.places.map Place.d)
  let p3 := PyData.tuple (S.locks.map lsD)
  let p4 := PyData.tuple (S.lits.map ltD2)
  let p5 := PyData.tuple [.str (onS S.mark)]
  let p6 := PyData.tuple [.int S.count]
  let st := PyData.str "state"
  let r := PyData.int S.room
  [.none, .list [st, r, p2, p3, p4, p5, p6], .tuple [st, r, p2, p3, p4, p5], .tuple [st, r, p2, p3, p4, p5, p6, .tuple []], .tuple [.str "stated", r, p2, p3, p4, p5, p6],
    .tuple [st, .int W.rooms.length, p2, p3, p4, p5, p6], .tuple [st, .bool true, p2, p3, p4, p5, p6], .tuple [st, r, .list (S.places.map Place.d), p3, p4, p5, p6],
    .tuple [st, r, .tuple ((S.places ++ [Place.gone]).map Place.d), p3, p4, p5, p6], .tuple [st, r, p2, p3, p4, .tuple [.str "dim"], p6], .tuple [st, r, p2, p3, p4, p5, .tuple [.int 100]], .tuple [st, r, p2, p3, p4, p5, .tuple [.bool true]],
    .tuple [st, r, p2, .tuple ((S.locks ++ [LS.open_]).map lsD), p4, p5, p6], .tuple [st, r, p2, p3, .tuple ((S.lits ++ [true]).map ltD2), p5, p6]]
theorem bent_bad (o : SOk W S) (e : EndOk W) : ∀ v ∈ bent14 W S, Bad W v := by
  intro v hv
  simp only [bent14, List.mem_cons, List.not_mem_nil, or_false] at hv
  rcases hv with rfl | rfl | rfl | rfl | rfl | rfl | rfl | rfl | rfl | rfl | rfl | rfl | rfl | rfl
  · exact bad_none
  · exact bad_list
  · exact bad_6
  · exact bad_8
  · exact bad_st
  · exact bad_room o e (r := .inl W.rooms.length) (.inl rfl)
  · exact bad_room o e (r := .inr true) (.inr ⟨_, rfl⟩)
  · exact bad_pl
  · exact bad_places o e (.inl (by rw [List.length_append, o.np]; simp))
  · exact bad_marks o e
  · exact bad_counts o e (x := .inl 100) (by decide)
  · exact bad_counts o e (x := .inr true) rfl
  · have h := bad_locks o e (ls := (S.locks ++ [LS.open_]).map LS.s) (.inl (by simp))
    rw [locks_d] at h
    exact h
  · have h := bad_lits o e (ls := (S.lits ++ [true]).map litS) (by simp)
    rw [lits_d] at h
    exact h
open K04 in
theorem c_bent (o : SOk W S) (e : EndOk W) : call prog cst (n + 5) "_law_bent" false [W.d, S.d] g = some (.sh (.bool true), g) := by
  have ht := e.t4
  have hnp := o.np
  have hnl : S.locks.length ≤ 5 := by
    have h := o.nl
    have h2 := start_len e
    have h3 := locksL_len (W := W)
    unfold locksL at h3
    rw [List.length_append, List.length_map, List.length_map, List.length_range] at h3
    omega
  have hnt : S.lits.length ≤ 4 := by
    rw [o.nt]
    have := List.length_filter_le (fun k => decide (kindAt W k = some .lamp)) (List.range W.things.length)
    rw [List.length_range] at this
    unfold lampNo
    omega
  have hp1 : binD .add (.tuple (S.places.map Place.d)) (.tuple [.tuple [.str (Str.ofString "gone")]]) = some (.sh (.tuple ((S.places ++ [Place.gone]).map Place.d))) := by
    rw [bi_addTs (by simp; omega), List.map_append]
    rfl
  have hp2 : binD .add (.tuple (S.locks.map lsD)) (.tuple [.str (Str.ofString "open")]) = some (.sh (.tuple ((S.locks ++ [LS.open_]).map lsD))) := by
    rw [bi_addTs (by simp; omega), List.map_append]
    rfl
  have hp3 : binD .add (.tuple (S.lits.map ltD2)) (.tuple [.str (Str.ofString "lit")]) = some (.sh (.tuple ((S.lits ++ [true]).map ltD2))) := by
    rw [bi_addTs (by simp; omega), List.map_append]
    rfl
  rw [u_law_bent]
  simp_arith [F_law_bent, ↓S3', ↓S4', sl01, sl02, sl03, sl04, sl05, sl06, sl1, sl2, sl3, sl4, sl5, sl6, list_S, list_tup, add_S, hp1, hp2, hp3, bi_addTs, bi_addLs, List.length_cons, List.length_nil, Nat.reduceAdd, Nat.reduceLeDiff, List.cons_append, List.nil_append, List.length_map, kLi_eq]
  simp only [things_1 e, Option.bind_some]
  rw [kFo_eq share_ow (show itD _ = some ((allT W).map intD) from rfl)]
  simp only [Option.bind_assoc]
  have hT : (allT W).length = W.things.length := List.length_range
  refine fo_invb intD (fun i ρ => ∃ L x, ρ = [some (.sh W.d), some (.sh S.d), some (.ow L), x, none] ∧ L.length ≤ 14 + 2 * i ∧ ∀ v ∈ L, Bad W v) (fun ρ' hρ => ?_) ⟨bent14 W S, none, rfl, by simp [bent14], bent_bad o e⟩ fun i k hk ρ hi hρ => ?_
  · obtain ⟨L, x, rfl, hL, hbad⟩ := hρ
    have hL2 : L.length ≤ 22 := by omega
    have key : ∀ (L : List D), (∀ v ∈ L, Bad W v) → ∀ (x : Option Vl), ((ev ⟨call prog cst (n + 4), cst⟩ (.lc (.nm 4) (.nm 2) (.cm .isn (.ca "is_state" none (.cons (.nm 0) (.cons (.nm 4) .nil))) (.bl false)) (.nm 4)) [some (.sh W.d), some (.sh S.d), some (.ow L), x, none] g)) = some (.ow [], g) := by
      intro L hL x
      rw [ev_lc (α := D) (fun v => v) (fun _ => false) (fun v => v) (xs := L) (vi := .bw L) ?_ (by simp [rd_bw, itD]) ?_]
      · simp
      · simp_arith []
      · intro v hv
        refine ⟨_, rfl, ?_, fun h => by cases h⟩
        simp_arith [hL v hv g n, isn_ff]
    simp_arith [↓S3', eqD_tnil]
    cases hlk : S.locks with
    | nil => simp_arith [List.map_nil, List.isEmpty_nil, key L hbad x, List.length_nil]
    | cons l ls =>
      have hsl : slD (.tuple (S.locks.map lsD)) (some 1) none = some (.sh (.tuple (ls.map lsD))) := by rw [hlk]; exact sl_drop1 lsD l ls
      have ha : binD .add (.tuple [.str (Str.ofString "ajar")]) (.tuple (ls.map lsD)) = some (.sh (.tuple ((("ajar" : Str) :: ls.map LS.s).map .str))) := by
        rw [bi_addTs (by rw [hlk] at hnl; simp at hnl ⊢; omega), List.map_cons, locks_d]
        rfl
      have hb : Bad W (.tuple [.str "state", .int S.room, .tuple (S.places.map Place.d), .tuple ((("ajar" : Str) :: ls.map LS.s).map .str), .tuple (S.lits.map ltD2), .tuple [.str (onS S.mark)], .tuple [.int S.count]]) :=
        bad_locks o e (.inr ⟨"ajar", List.mem_cons_self, by simp [inB, ofString_inj]⟩)
      have hlen : (L.length < sizeLine) = True := eq_true (by rw [sizeLine_eq]; omega)
      simp_arith [List.map_cons, List.isEmpty_cons, ↓S3', hsl, ha, sl03, sl4, bi_addTs, List.length_cons, List.length_nil, Nat.reduceAdd, Nat.reduceLeDiff, List.cons_append, List.nil_append, hlen, if_true]
      rw [← List.map_cons, key _ (fun v hv => by
        rcases List.mem_append.mp hv with hv | hv
        · exact hbad v hv
        · cases List.mem_singleton.mp hv; exact hb) x]
      simp_arith [List.length_nil]
  · obtain ⟨L, x, rfl, hL, hbad⟩ := hρ
    have hk := mem_allT hk
    rw [hT] at hi
    have hlen : (L.length < sizeLine) = True := eq_true (by rw [sizeLine_eq]; omega)
    obtain ⟨t, ht2⟩ := get_some hk
    have hput1 := fun (g : G) => c_law_put (n := n + 3) (g := g) Place.d (xs := S.places) (k := k) (x := .room 77) (by omega) (by omega)
    have hput2 := fun (g : G) => c_law_put (n := n + 3) (g := g) Place.d (xs := S.places) (k := k) (x := .held) (by omega) (by omega)
    simp only [Place.d] at hput1 hput2
    have hb1 : Bad W (.tuple [.str "state", .int S.room, .tuple ((S.places.set k (.room 77)).map Place.d), .tuple (S.locks.map lsD), .tuple (S.lits.map ltD2), .tuple [.str (onS S.mark)], .tuple [.int S.count]]) :=
      bad_places o e (.inr ⟨k, .room 77, by rw [List.length_set, hnp], hk, by rw [List.getElem?_set_self (by omega)], by
        rw [show placeB W (.room 77) = false from decide_eq_false (by have := e.r4; omega)]; rfl⟩)
    refine ⟨_, rfl, ?_⟩
    have h77 : ((77 : Nat) : Int) = 77 := rfl
    simp only [h77] at hput1
    by_cases hkd : t.kind = .box ∨ t.kind = .fixed
    · have hb2 : Bad W (.tuple [.str "state", .int S.room, .tuple ((S.places.set k .held).map Place.d), .tuple (S.locks.map lsD), .tuple (S.lits.map ltD2), .tuple [.str (onS S.mark)], .tuple [.int S.count]]) :=
        bad_places o e (.inr ⟨k, .held, by rw [List.length_set, hnp], hk, by rw [List.getElem?_set_self (by omega)], by
          unfold mayB
          rw [kind_of ht2]
          rcases hkd with h | h <;> rw [h] <;> simp⟩)
      have hlen2 : ((L ++ [PyData.tuple [.str "state", .int S.room, .tuple ((S.places.set k (.room 77)).map Place.d), .tuple (S.locks.map lsD), .tuple (S.lits.map ltD2), .tuple [.str (onS S.mark)], .tuple [.int S.count]]]).length < sizeLine) = True := eq_true (by rw [List.length_append, sizeLine_eq]; simp; omega)
      have hin : (decide (Str.ofString "box" = t.kind.s) || decide (Str.ofString "fixed" = t.kind.s)) = true := by rcases hkd with h | h <;> rw [h] <;> simp [Kind.s]
      refine ⟨_, by
        simp_arith [intD, hput1, hput2, sl02, sl3, bi_addTs, List.length_cons, List.length_nil, Nat.reduceAdd, Nat.reduceLeDiff, List.cons_append, List.nil_append, hlen, if_true, ht2, Bool.or_false, hin, hlen2]
        rfl, _, _, rfl, ?_, ?_⟩
      · simp only [List.length_append, List.length_singleton]; omega
      · intro v hv
        rcases List.mem_append.mp hv with hv | hv
        · rcases List.mem_append.mp hv with hv | hv
          · exact hbad v hv
          · cases List.mem_singleton.mp hv; exact hb1
        · cases List.mem_singleton.mp hv; exact hb2
    · have hin : (decide (Str.ofString "box" = t.kind.s) || decide (Str.ofString "fixed" = t.kind.s)) = false := by
        cases hx : t.kind <;> simp [hx] at hkd <;> simp [Kind.s, ofString_inj]
      refine ⟨_, by
        simp_arith [intD, hput1, hput2, sl02, sl3, bi_addTs, List.length_cons, List.length_nil, Nat.reduceAdd, Nat.reduceLeDiff, List.cons_append, List.nil_append, hlen, if_true, ht2, Bool.or_false, hin]
        rfl, _, _, rfl, ?_, ?_⟩
      · simp only [List.length_append, List.length_singleton]; omega
      · intro v hv
        rcases List.mem_append.mp hv with hv | hv
        · exact hbad v hv
        · cases List.mem_singleton.mp hv; exact hb1
end
end Pu.Tw
set_option Elab.async false
set_option maxRecDepth 100000
set_option maxHeartbeats 8000000
set_option linter.all false
/-! M13: parts, differences. -/
namespace Pu.Tw
open PySem L2 Pu.St
local macro_rules | `(tactic| simp_arith [$ls,*] $[$loc]?) => `(tactic| simp only [ev_nil, ev_cons, kC1_eq, kC0_eq, kC2_eq, ev_nm, nmV_eq, ev_int, ev_str, ev_bl, ev_non, ev_gl, ev_tu, ev_li, kLi_eq, kB1_eq, kB0_eq, kB2_eq, ev_bi, ev_cm, fBi_eq, fCm_eq, ev_ch, fCh_eq, kCh_t, kCh_f, ev_neg, kNeg_eq, ev_an, ev_or, kAn_t, kAn_f, kOr_t, kOr_f, ev_no, kNo_eq, evT_eq, kT_eq, kT_ow, ev_ie, kIe_t, kIe_f, ev_ix, kIx_eq, kIx2_sh, kIx2_bw, kIx2_ow, kIx2_od, kIx2_bd, ev_sl, kSl_eq, kSl0_eq, kSl1_eq, kSl2_eq, pO_nil, pO_int, pO_nm, pO_bi, pO_ix, pO_bf, kPO_eq, ev_ca, kCa_n, evR_nil, evR_cons, kR1_eq, kR0_eq, ev_bf, kBf_eq, ev_me, kMe_eq, kMe2_eq, ev_isi, kIsi_sh, ev_r1, ev_l1, ev_r2, kR2r_eq, ex_nop, ex_seq, kS_nx, kS_rt, kS_br, kS_ct, ex_as, kAs_sh, kAs_ow, kAs_od, ex_par, evP_nil, evP_cons, kP1_eq, kP0_eq, ex_up, ex_if, kIf_t, kIf_f, ex_re, kRe_sh, kRe_ow, kRe_bw, ex_ap, ex_ex, ex_fz, fzV_ow, fzV_sh, kAp_sh, kAp_ow, apV_ow, kEx_ow, kEx_bw, exV_ow, ex_fo, ex_rn, share_sh, share_ow, rd_sh, rd_ow, rd_bw, bo_sh, bo_ow, bo_od, keep_sh, keep_ow, lst_ow, lst_bw, kF_rt, kF_nx, List.getElem?_cons_zero, List.getElem?_cons_succ, Option.bind_some, Option.map_some, List.set_cons_zero, List.set_cons_succ, String.reduceEq, decide_false, decide_true, Bool.not_true, Bool.not_false, cm_eq, cm_ne, cm_in, cm_nin, cm_is, cm_isn, eqD_str, eqD_str', eqD_int, eqD_int', eqv_str, eqv_int, ofString_inj, in_tup, in_lst, ix_0, ix_1, ix_2, ix_map, ix_mapL, W1, W2, W3, W4, W5, W6, W7, W8, W9, W10, W11, W12, S0, S1, S2, S3, S4, S5, S6, T2, T3, T4, D1, D3, D4, D5, len_tup, len_lst, bi_add, Kind.eq_box, Kind.eq_lamp, Kind.eq_thing, Kind.eq_fixed, LS.eq, LS.eq_open, LS.eq_closed, LS.eq_locked, lit_eq, on_eq, wipeE, Tg.slots, bindTg, Place.eqD, Place.eqv, Lock.eqv, List.any_cons, List.any_nil, z0, z1, cm_lt, cm_le, cm_gt, cm_ge, bi_sub, Int.natCast_inj, $ls,*] $[$loc]?)

theorem fo_inv_b {α β : Type} (enc : α → D) {body : Env → G → Option (Out × Env × G)} {bind : D → Env → Option Env} (inv : List α → Env → G → Prop) {ys : List α} {ρ : Env} {g : G} {K : Out × Env × G → Option β} {R : Option β}
    (hK : ∀ ρ' g', inv ys ρ' g' → K (.nx, ρ', g') = R) (hi : inv [] ρ g) (h : ∀ zs x ρ g, x ∈ ys → zs ++ [x] <+: ys → inv zs ρ g → ∃ ρ1, bind (enc x) ρ = some ρ1 ∧ ∃ ρ2 g2, body ρ1 g = some (.nx, ρ2, g2) ∧ inv (zs ++ [x]) ρ2 g2) :
    (forLoop body bind (ys.map enc) ρ g).bind K = R := by
  have key : ∀ (us zs : List α) (ρ : Env) (g : G), zs ++ us = ys → inv zs ρ g → ∃ ρ' g', forLoop body bind (us.map enc) ρ g = some (.nx, ρ', g') ∧ inv ys ρ' g' := by
    intro us
    induction us with
    | nil => intro zs ρ g e hi; rw [List.append_nil] at e; subst e; exact ⟨ρ, g, rfl, hi⟩
    | cons u us ih =>
      intro zs ρ g e hi
      obtain ⟨ρ1, h1, ρ2, g2, h2, h3⟩ := h zs u ρ g (by rw [← e]; simp) ⟨us, by rw [← e]; simp⟩ hi
      obtain ⟨ρ', g', h4, h5⟩ := ih (zs ++ [u]) ρ2 g2 (by rw [← e]; simp) h3
      refine ⟨ρ', g', ?_, h5⟩
      rw [List.map_cons]
      simp only [forLoop, h1, h2, Option.bind_eq_bind, Option.bind_some]
      exact h4
  obtain ⟨ρ', g', h1, h2⟩ := key ys [] ρ g rfl hi
  rw [h1]
  exact hK ρ' g' h2
section
variable {W : World} {S T : State} {g : G} {n : Nat}
theorem sl_take {xs : List D} {k : Nat} (hk : k ≤ xs.length) : slD (.tuple xs) none (some (k : Int)) = some (.sh (.tuple (xs.take k))) := by
  show some (Vl.sh (.tuple (cutD xs none (some (k : Int))))) = _
  congr 3
  unfold cutD
  have e0 : HT.sIx xs.length 0 none = 0 := rfl
  have e2 : HT.sIx xs.length xs.length (some (k : Int)) = k := by
    unfold HT.sIx
    simp
    rw [if_neg (by omega)]
    omega
  rw [e0, e2, List.drop_zero, Nat.sub_zero]
theorem sl_drop {xs : List D} {k : Nat} (hk : k < xs.length) : slD (.tuple xs) (some ((k : Int) + 1)) none = some (.sh (.tuple (xs.drop (k + 1)))) := by
  show some (Vl.sh (.tuple (cutD xs (some ((k : Int) + 1)) none))) = _
  congr 3
  unfold cutD
  have e0 : HT.sIx xs.length xs.length none = xs.length := rfl
  have e2 : HT.sIx xs.length 0 (some ((k : Int) + 1)) = k + 1 := by
    unfold HT.sIx
    simp
    rw [if_neg (by omega)]
    omega
  rw [e0, e2]
  apply List.take_of_length_le
  rw [List.length_drop]
  exact Nat.le_refl _
theorem set_parts {xs : List D} {k : Nat} {x : D} (hk : k < xs.length) : (xs.take k ++ [x]) ++ xs.drop (k + 1) = xs.set k x := by
  rw [List.set_eq_take_append_cons_drop, if_pos hk]
  simp
/-- a state by its parts -/
def stepD (r : Nat) (ps : List (List D)) : D := .tuple (.str "state" :: .int r :: ps.map .tuple)
def sp (S : State) : List (List D) := [S.places.map Place.d, S.locks.map lsD, S.lits.map ltD2, [.str (onS S.mark)], [.int S.count]]
theorem S_step : S.d = stepD S.room (sp S) := rfl
theorem ix_get {xs : List D} {k : Nat} : ixD (.tuple xs) (.int (k : Nat)) = xs[k]? := by
  show atI _ _ = _
  rw [at_nat]
theorem step_ix {r : Nat} {ps : List (List D)} {i : Nat} : ixD (stepD r ps) (.int ((i + 2 : Nat) : Int)) = (ps[i]?).map .tuple := by
  unfold stepD
  rw [ix_get]
  simp
open K04 in
theorem c_with_part {r : Nat} {ps : List (List D)} {i k : Nat} {row : List D} {v : D} (hi : ps[i]? = some row) (hk : k < row.length) (hl : row.length ≤ 900) (hp : ps.length ≤ 10) : call prog cst (n + 1) "with_part" false [stepD r ps, .int ((i + 2 : Nat) : Int), .int (k : Nat), v] g = some (.sh (stepD r (ps.set i (row.set k v))), g) := by
  have hlt : i < ps.length := by
    rcases List.getElem?_eq_some_iff.mp hi with ⟨z, _⟩
    exact z
  have hx : i + 2 < (PyData.str (Str.ofString "state") :: .int r :: ps.map .tuple).length := by simp; omega
  rw [u_with_part]
  simp_arith [F_with_part, step_ix, hi, sl_take (Nat.le_of_lt hk), sl_drop hk]
  rw [bi_addTs (by simp; omega)]
  simp_arith [step_ix, hi, sl_drop hk]
  rw [bi_addTs (by simp; omega)]
  simp_arith [set_parts hk]
  unfold stepD
  simp_arith [sl_take (Nat.le_of_lt hx)]
  rw [bi_addTs (by simp; omega)]
  simp_arith [sl_drop hx]
  rw [bi_addTs (by simp; omega)]
  simp_arith [set_parts hx, List.map_set]
/-! ### differences -/
def pairD (p : Nat × Nat) : D := .tuple [.int p.1, .int p.2]
def diffK (a b : List D) (k : Nat) : Bool := match a[k]?, b[k]? with
  | some x, some y => !PyData.eqv x y
  | _, _ => false
def diffs (S T : State) (i : Nat) : List (Nat × Nat) := match (sp S)[i]?, (sp T)[i]? with
  | some a, some b => ((List.range a.length).filter (diffK a b)).map fun k => (i + 2, k)
  | _, _ => []
def diff0 (S T : State) : List (Nat × Nat) := if S.room = T.room then [] else [(1, 0)]
def diffL (S T : State) : List (Nat × Nat) := diff0 S T ++ (List.range 5).flatMap (diffs S T)
theorem cell_dp {a : List D} (h : a ∈ sp S) {x : D} (hx : x ∈ a) : x.depth ≤ 10 := by
  simp only [sp, List.mem_cons, List.not_mem_nil, or_false] at h
  rcases h with rfl | rfl | rfl | rfl | rfl
  · obtain ⟨p, _, rfl⟩ := List.mem_map.mp hx
    exact Nat.le_trans p.depth (by decide)
  · obtain ⟨p, _, rfl⟩ := List.mem_map.mp hx
    simp [lsD, PyData.depth]
  · obtain ⟨p, _, rfl⟩ := List.mem_map.mp hx
    simp [ltD2, PyData.depth]
  · cases List.mem_singleton.mp hx
    simp [PyData.depth]
  · cases List.mem_singleton.mp hx
    simp [PyData.depth]
/-- one part's differences, as both write them -/
theorem ev_diffs {c : Cf} {ρ : Env} {ia ib ip ik : Nat} {i : Nat} {a b : List D} (ha : (sp S)[i]? = some a) (hb : (sp T)[i]? = some b) (hl : a.length = b.length) (h1000 : a.length ≤ 1000)
    (h1 : ia ≠ ik) (h2 : ib ≠ ik) (h3 : ip ≠ ik) (hk : ik < ρ.length) (r1 : ρ[ia]? = some (some (.sh S.d))) (r2 : ρ[ib]? = some (some (.sh T.d))) (r3 : ρ[ip]? = some (some (.sh (.int ((i + 2 : Nat) : Int))))) :
    ev c (.lc (.nm ik) (.r1 (.bf .len (.cons (.ix (.nm ia) (.nm ip)) .nil))) (.cm .ne (.ix (.ix (.nm ia) (.nm ip)) (.nm ik)) (.ix (.ix (.nm ib) (.nm ip)) (.nm ik))) (.tu (.cons (.nm ip) (.cons (.nm ik) .nil)))) ρ g = some (.ow ((diffs S T i).map pairD), g) := by
  rw [ev_lc (α := Nat) intD (diffK a b) (fun k => pairD (i + 2, k)) (xs := List.range a.length) (vi := .ow ((List.range a.length).map intD)) ?_ rfl ?_]
  · unfold diffs
    rw [ha, hb]
    dsimp only
    rw [List.map_map]
    rfl
  · simp_arith [r1, r3, S_step, step_ix, ha, kR1r_eq (show a.length ≤ 16777216 by omega)]
    rfl
  · intro k hkm
    have hk2 : k < a.length := List.mem_range.mp hkm
    have e1 : ((ρ.set ik none).set ik (some (.sh (.int (k : Nat)))))[ia]? = some (some (.sh S.d)) := by rw [List.getElem?_set_ne (Ne.symm h1), List.getElem?_set_ne (Ne.symm h1), r1]
    have e2 : ((ρ.set ik none).set ik (some (.sh (.int (k : Nat)))))[ib]? = some (some (.sh T.d)) := by rw [List.getElem?_set_ne (Ne.symm h2), List.getElem?_set_ne (Ne.symm h2), r2]
    have e3 : ((ρ.set ik none).set ik (some (.sh (.int (k : Nat)))))[ip]? = some (some (.sh (.int ((i + 2 : Nat) : Int)))) := by rw [List.getElem?_set_ne (Ne.symm h3), List.getElem?_set_ne (Ne.symm h3), r3]
    have e4 : ((ρ.set ik none).set ik (some (.sh (.int (k : Nat)))))[ik]? = some (some (.sh (.int (k : Nat)))) := by rw [List.getElem?_set_self (by simpa using hk)]
    obtain ⟨x, hx⟩ := get_some hk2
    obtain ⟨y, hy⟩ := get_some (show k < b.length by omega)
    refine ⟨(ρ.set ik none).set ik (some (.sh (.int (k : Nat)))), rfl, ?_, fun _ => ⟨.sh (pairD (i + 2, k)), ?_, rfl⟩⟩
    · simp_arith [e1, e2, e3, e4, S_step, step_ix, ha, hb, intD, ix_get, hx, hy, diffK]
      rw [eqD_small (Nat.le_trans (cell_dp (List.mem_of_getElem? ha) (List.mem_of_getElem? hx)) (by decide))]
      simp_arith []
    · simp_arith [e3, e4]
      rfl
theorem sp_len (o : SOk W S) (o' : SOk W T) {i : Nat} {a b : List D} (ha : (sp S)[i]? = some a) (hb : (sp T)[i]? = some b) : a.length = b.length := by
  match i with
  | 0 => cases ha; cases hb; simp [o.np, o'.np]
  | 1 => cases ha; cases hb; simp [o.nl, o'.nl]
  | 2 => cases ha; cases hb; simp [o.nt, o'.nt]
  | 3 => cases ha; cases hb; rfl
  | 4 => cases ha; cases hb; rfl
  | i + 5 => simp [sp] at ha
theorem sp_small (o : SOk W S) (e : EndOk W) {i : Nat} {a : List D} (ha : (sp S)[i]? = some a) : a.length ≤ 9 := by
  have hT := e.t4
  have hD := e.d1
  have h3 := locksL_len (W := W)
  have h2 := start_len e
  unfold locksL at h3
  rw [List.length_append, List.length_map, List.length_map, List.length_range] at h3
  have h5 := List.length_filter_le (fun k => decide (kindAt W k = some .lamp)) (List.range W.things.length)
  rw [List.length_range] at h5
  match i with
  | 0 => cases ha; simp [o.np]; omega
  | 1 => cases ha; simp [o.nl]; omega
  | 2 => cases ha; simp [o.nt, lampNo]; omega
  | 3 => cases ha; simp
  | 4 => cases ha; simp
  | i + 5 => simp [sp] at ha
theorem sp_get {i : Nat} (h : i < 5) : ∃ a, (sp S)[i]? = some a := ⟨_, List.getElem?_eq_getElem (show i < (sp S).length from h)⟩
theorem diffs_len {i : Nat} (o : SOk W S) (e : EndOk W) : (diffs S T i).length ≤ 9 := by
  unfold diffs
  split
  · rename_i a b ha hb
    rw [List.length_map]
    have := List.length_filter_le (diffK a b) (List.range a.length)
    rw [List.length_range] at this
    have := sp_small o e ha
    omega
  · simp
theorem flat_len {f : Nat → List (Nat × Nat)} (h : ∀ i, (f i).length ≤ 9) : ∀ l : List Nat, (l.flatMap f).length ≤ 9 * l.length
  | [] => by simp
  | x :: l => by
    rw [List.flatMap_cons, List.length_append, List.length_cons]
    have := h x
    have := flat_len h l
    omega
def ipD (i : Nat) : D := .int ((i + 2 : Nat) : Int)
theorem rng27 : kR2s (.sh (.int 2)) (.sh (.int 7), g) = some (.ow ((List.range 5).map ipD), g) := by kernel_rfl
theorem diff0_len : (diff0 S T).length ≤ 1 := by unfold diff0; split <;> simp
open K04 in
theorem c_differences (o : SOk W S) (o' : SOk W T) (e : EndOk W) : call prog cst (n + 1) "differences" false [S.d, T.d] g = some (.ow ((diffL S T).map pairD), g) := by
  rw [u_differences]
  simp_arith [F_differences]
  have h0 : kIe ⟨call prog cst n, cst⟩ (.li (.cons (.tu (.cons (.int 1) (.cons (.int 0) .nil))) .nil)) (.li .nil) [some (.sh S.d), some (.sh T.d), none, none, none] (!decide (S.room = T.room), g) = some (.ow ((diff0 S T).map pairD), g) := by
    unfold diff0
    by_cases h : S.room = T.room
    · rw [decide_eq_true h, if_pos h]
      simp_arith [kLi_eq]
      rfl
    · rw [decide_eq_false h, if_neg h]
      simp_arith [kLi_eq]
      rfl
  simp_arith [h0, rng27]
  rw [kFo_eq share_ow (show itD _ = some ((List.range 5).map ipD) from rfl)]
  simp only [Option.bind_assoc]
  refine fo_inv_b ipD (fun zs ρ g' => g' = g ∧ zs.length ≤ 5 ∧ ∃ x, ρ = [some (.sh S.d), some (.sh T.d), some (.ow ((diff0 S T ++ zs.flatMap (diffs S T)).map pairD)), x, none]) (fun ρ' g' h2 => ?_) ⟨rfl, by simp, none, by simp⟩ fun zs i ρ g' hi hpre hz => ?_
  · obtain ⟨rfl, _, x, rfl⟩ := h2
    simp_arith []
    rfl
  · obtain ⟨rfl, hz5, x, rfl⟩ := hz
    have hi5 : i < 5 := List.mem_range.mp hi
    obtain ⟨a, ha⟩ := sp_get (S := S) hi5
    obtain ⟨b, hb⟩ := sp_get (S := T) hi5
    have hsm := sp_small o e ha
    have hf := flat_len (f := diffs S T) (fun i => diffs_len o e) zs
    have hd := diffs_len (T := T) (i := i) o e
    have h0l := diff0_len (S := S) (T := T)
    have hev := ev_diffs (c := ⟨call prog cst n, cst⟩) (g := g') (ρ := [some (.sh S.d), some (.sh T.d), some (.ow ((diff0 S T ++ zs.flatMap (diffs S T)).map pairD)), some (.sh (ipD i)), none]) (ia := 0) (ib := 1) (ip := 3) (ik := 4) ha hb (sp_len o o' ha hb) (by omega) (by omega) (by omega) (by omega) (by simp) rfl rfl rfl
    have happ : (diff0 S T ++ zs.flatMap (diffs S T)).map pairD ++ (diffs S T i).map pairD = (diff0 S T ++ (zs ++ [i]).flatMap (diffs S T)).map pairD := by
      rw [List.flatMap_append, ← List.append_assoc, List.map_append]
      simp
    refine ⟨_, rfl, [some (.sh S.d), some (.sh T.d), some (.ow ((diff0 S T ++ (zs ++ [i]).flatMap (diffs S T)).map pairD)), some (.sh (ipD i)), none], g', ?_, rfl, ?_, _, rfl⟩
    · simp_arith [hev, if_pos (show ((diff0 S T ++ zs.flatMap (diffs S T)).map pairD).length + ((diffs S T i).map pairD).length ≤ sizeLine by rw [List.length_map, List.length_map, List.length_append, sizeLine_eq]; omega), happ]
    · have := hpre.length_le
      rw [List.length_range] at this
      exact this
end
end Pu.Tw
set_option Elab.async false
set_option maxRecDepth 100000
set_option maxHeartbeats 8000000
set_option linter.all false
/-! M14: the law's parts. -/
namespace Pu.Tw
open PySem L2 Pu.St
local macro_rules | `(tactic| simp_arith [$ls,*] $[$loc]?) => `(tactic| simp only [ev_nil, ev_cons, kC1_eq, kC0_eq, kC2_eq, ev_nm, nmV_eq, ev_int, ev_str, ev_bl, ev_non, ev_gl, ev_tu, ev_li, kLi_eq, kB1_eq, kB0_eq, kB2_eq, ev_bi, ev_cm, fBi_eq, fCm_eq, ev_ch, fCh_eq, kCh_t, kCh_f, ev_neg, kNeg_eq, ev_an, ev_or, kAn_t, kAn_f, kOr_t, kOr_f, ev_no, kNo_eq, evT_eq, kT_eq, kT_ow, ev_ie, kIe_t, kIe_f, ev_ix, kIx_eq, kIx2_sh, kIx2_bw, kIx2_ow, kIx2_od, kIx2_bd, ev_sl, kSl_eq, kSl0_eq, kSl1_eq, kSl2_eq, pO_nil, pO_int, pO_nm, pO_bi, pO_ix, pO_bf, kPO_eq, ev_ca, kCa_n, evR_nil, evR_cons, kR1_eq, kR0_eq, ev_bf, kBf_eq, ev_me, kMe_eq, kMe2_eq, ev_isi, kIsi_sh, ev_r1, ev_l1, ev_r2, kR2r_eq, ex_nop, ex_seq, kS_nx, kS_rt, kS_br, kS_ct, ex_as, kAs_sh, kAs_ow, kAs_od, ex_par, evP_nil, evP_cons, kP1_eq, kP0_eq, ex_up, ex_if, kIf_t, kIf_f, ex_re, kRe_sh, kRe_ow, kRe_bw, ex_ap, ex_ex, ex_fz, fzV_ow, fzV_sh, kAp_sh, kAp_ow, apV_ow, kEx_ow, kEx_bw, exV_ow, ex_fo, ex_rn, share_sh, share_ow, rd_sh, rd_ow, rd_bw, bo_sh, bo_ow, bo_od, keep_sh, keep_ow, lst_ow, lst_bw, kF_rt, kF_nx, List.getElem?_cons_zero, List.getElem?_cons_succ, Option.bind_some, Option.map_some, List.set_cons_zero, List.set_cons_succ, String.reduceEq, decide_false, decide_true, Bool.not_true, Bool.not_false, cm_eq, cm_ne, cm_in, cm_nin, cm_is, cm_isn, eqD_str, eqD_str', eqD_int, eqD_int', eqv_str, eqv_int, ofString_inj, in_tup, in_lst, ix_0, ix_1, ix_2, ix_map, ix_mapL, W1, W2, W3, W4, W5, W6, W7, W8, W9, W10, W11, W12, S0, S1, S2, S3, S4, S5, S6, T2, T3, T4, D1, D3, D4, D5, len_tup, len_lst, bi_add, Kind.eq_box, Kind.eq_lamp, Kind.eq_thing, Kind.eq_fixed, LS.eq, LS.eq_open, LS.eq_closed, LS.eq_locked, lit_eq, on_eq, wipeE, Tg.slots, bindTg, Place.eqD, Place.eqv, Lock.eqv, List.any_cons, List.any_nil, z0, z1, cm_lt, cm_le, cm_gt, cm_ge, bi_sub, Int.natCast_inj, $ls,*] $[$loc]?)

section
variable {W : World} {S T : State} {g : G} {n : Nat}
theorem cell_eq {i k : Nat} {a b : List D} {x y : D} (ha : (sp S)[i]? = some a) (hb : (sp T)[i]? = some b) (hx : a[k]? = some x) (hy : b[k]? = some y) (h : PyData.eqv x y = true) : x = y := by
  match i with
  | 0 =>
    cases ha; cases hb
    rw [List.getElem?_map] at hx hy
    obtain ⟨p, _, rfl⟩ := Option.map_eq_some_iff.mp hx
    obtain ⟨q, _, rfl⟩ := Option.map_eq_some_iff.mp hy
    rw [Place.eqv] at h
    rw [of_decide_eq_true h]
  | 1 =>
    cases ha; cases hb
    rw [List.getElem?_map] at hx hy
    obtain ⟨p, _, rfl⟩ := Option.map_eq_some_iff.mp hx
    obtain ⟨q, _, rfl⟩ := Option.map_eq_some_iff.mp hy
    unfold lsD at h ⊢
    rw [eqv_str] at h
    rw [of_decide_eq_true h]
  | 2 =>
    cases ha; cases hb
    rw [List.getElem?_map] at hx hy
    obtain ⟨p, _, rfl⟩ := Option.map_eq_some_iff.mp hx
    obtain ⟨q, _, rfl⟩ := Option.map_eq_some_iff.mp hy
    unfold ltD2 at h ⊢
    rw [eqv_str] at h
    rw [of_decide_eq_true h]
  | 3 =>
    cases ha; cases hb
    match k with
    | 0 =>
      cases hx; cases hy
      rw [eqv_str] at h
      rw [of_decide_eq_true h]
    | k + 1 => simp at hx
  | 4 =>
    cases ha; cases hb
    match k with
    | 0 =>
      cases hx; cases hy
      rw [eqv_int] at h
      rw [of_decide_eq_true h]
    | k + 1 => simp at hx
  | i + 5 => simp [sp] at ha
def cel (ps : List (List D)) (i k : Nat) : Option D := (ps[i]?).bind (·[k]?)
/-- what the parts are behind some of the differences -/
structure StepOk (S T : State) (zs : List (Nat × Nat)) (r : Nat) (ps : List (List D)) : Prop where
  len : ps.length = 5
  row : ∀ (i : Nat), (ps[i]?).map List.length = ((sp S)[i]?).map List.length
  cell : ∀ (i k : Nat), cel ps i k = if (i + 2, k) ∈ zs then cel (sp T) i k else cel (sp S) i k
  room : r = if (1, 0) ∈ zs then T.room else S.room
theorem mem_diffL {p : Nat × Nat} : p ∈ diffL S T ↔ (p = (1, 0) ∧ S.room ≠ T.room) ∨ ∃ i k a b x y, p = (i + 2, k) ∧ i < 5 ∧ (sp S)[i]? = some a ∧ (sp T)[i]? = some b ∧ a[k]? = some x ∧ b[k]? = some y ∧ PyData.eqv x y = false := by
  unfold diffL
  rw [List.mem_append]
  refine or_congr ?_ ?_
  · unfold diff0
    by_cases h : S.room = T.room
    · rw [if_pos h]
      simp [h]
    · rw [if_neg h]
      simp [h]
  · rw [List.mem_flatMap]
    constructor
    · rintro ⟨i, hi, hp⟩
      unfold diffs at hp
      split at hp
      · rename_i a b ha hb
        obtain ⟨k, hk, rfl⟩ := List.mem_map.mp hp
        obtain ⟨_, hk⟩ := List.mem_filter.mp hk
        unfold diffK at hk
        split at hk
        · rename_i x y hx hy
          exact ⟨i, k, a, b, x, y, rfl, List.mem_range.mp hi, ha, hb, hx, hy, by simpa using hk⟩
        · cases hk
      · cases hp
    · rintro ⟨i, k, a, b, x, y, rfl, hi, ha, hb, hx, hy, h⟩
      refine ⟨i, List.mem_range.mpr hi, ?_⟩
      unfold diffs
      rw [ha, hb]
      refine List.mem_map.mpr ⟨k, List.mem_filter.mpr ⟨?_, ?_⟩, rfl⟩
      · rcases List.getElem?_eq_some_iff.mp hx with ⟨z, _⟩
        exact List.mem_range.mpr z
      · unfold diffK
        rw [hx, hy]
        simp [h]
theorem step_end (o : SOk W S) (o' : SOk W T) {r : Nat} {ps : List (List D)} (h : StepOk S T (diffL S T) r ps) : stepD r ps = T.d := by
  have hr : r = T.room := by
    rw [h.room]
    by_cases e : S.room = T.room
    · split
      · rfl
      · exact e
    · rw [if_pos (mem_diffL.mpr (.inl ⟨rfl, e⟩))]
  have hp : ps = sp T := by
    apply List.ext_getElem?
    intro i
    by_cases hi : i < 5
    · obtain ⟨a, ha⟩ := sp_get (S := S) hi
      obtain ⟨b, hb⟩ := sp_get (S := T) hi
      obtain ⟨c, hc⟩ := get_some (show i < ps.length by rw [h.len]; exact hi)
      have hlen := h.row i
      rw [hc, ha] at hlen
      have hlen : c.length = a.length := Option.some.inj hlen
      have hab := sp_len o o' ha hb
      rw [hc, hb]
      congr 1
      apply List.ext_getElem?
      intro k
      have hcell := h.cell i k
      unfold cel at hcell
      rw [hc, hb, ha] at hcell
      simp only [Option.bind_some] at hcell
      rw [hcell]
      split
      · rfl
      · rename_i hn
        by_cases hk : k < a.length
        · obtain ⟨x, hx⟩ := get_some hk
          obtain ⟨y, hy⟩ := get_some (show k < b.length by omega)
          rw [hx, hy]
          congr 1
          cases he : PyData.eqv x y with
          | true => exact cell_eq ha hb hx hy he
          | false => exact absurd (mem_diffL.mpr (.inr ⟨i, k, a, b, x, y, rfl, hi, ha, hb, hx, hy, he⟩)) hn
        · rw [List.getElem?_eq_none (by omega), List.getElem?_eq_none (by omega)]
    · rw [List.getElem?_eq_none (by rw [h.len]; omega), List.getElem?_eq_none (show (sp T).length ≤ i by show 5 ≤ i; omega)]
  rw [hr, hp]
  rfl
theorem step_0 : StepOk S T [] S.room (sp S) := ⟨rfl, fun _ => rfl, fun i k => by simp, by simp⟩
theorem step_room {zs : List (Nat × Nat)} {r : Nat} {ps : List (List D)} (h : StepOk S T zs r ps) : StepOk S T (zs ++ [(1, 0)]) T.room ps := by
  refine ⟨h.len, h.row, fun i k => ?_, by simp⟩
  rw [h.cell i k]
  have : (i + 2, k) ∈ zs ++ [(1, 0)] ↔ (i + 2, k) ∈ zs := by simp
  simp only [this]
theorem step_cell {zs : List (Nat × Nat)} {r i k : Nat} {ps : List (List D)} {row b : List D} {y : D} (h : StepOk S T zs r ps) (hr : ps[i]? = some row) (hk : k < row.length) (hb : (sp T)[i]? = some b) (hy : b[k]? = some y) : StepOk S T (zs ++ [(i + 2, k)]) r (ps.set i (row.set k y)) := by
  have hi : i < ps.length := by
    rcases List.getElem?_eq_some_iff.mp hr with ⟨z, _⟩
    exact z
  refine ⟨by rw [List.length_set, h.len], fun j => ?_, fun j l => ?_, ?_⟩
  · rw [List.getElem?_set]
    split
    · rename_i e
      subst e
      have := h.row i
      rw [hr] at this
      rw [← this]
      simp
    · exact h.row j
  · unfold cel
    rw [List.getElem?_set]
    split
    · rename_i e
      subst e
      simp only [Option.bind_some]
      rw [List.getElem?_set]
      split
      · rename_i e
        subst e
        rw [if_pos (by simp), hb]
        simp only [Option.bind_some]
        exact hy.symm
      · rename_i hne
        have hc := h.cell i l
        unfold cel at hc
        rw [hr] at hc
        simp only [Option.bind_some] at hc
        rw [hc]
        have : (i + 2, l) ∈ zs ++ [(i + 2, k)] ↔ (i + 2, l) ∈ zs := by simp; intro z; exact absurd z.symm hne
        simp only [this]
    · rename_i hne
      have hc := h.cell j l
      unfold cel at hc
      rw [hc]
      have : (j + 2, l) ∈ zs ++ [(i + 2, k)] ↔ (j + 2, l) ∈ zs := by simp; intro z; exact absurd z.symm hne
      simp only [this]
  · rw [h.room]
    have : (1, 0) ∈ zs ++ [(i + 2, k)] ↔ (1, 0) ∈ zs := by simp
    simp only [this]
theorem diffL_self : diffL S S = [] := by
  apply List.eq_nil_iff_forall_not_mem.mpr
  intro p hp
  rcases mem_diffL.mp hp with ⟨_, h⟩ | ⟨i, k, a, b, x, y, _, _, ha, hb, hx, hy, h⟩
  · exact h rfl
  · rw [ha] at hb
    cases hb
    rw [hx] at hy
    cases hy
    have hp : x.plain = true := by
      have hm := List.mem_of_getElem? ha
      have hxm := List.mem_of_getElem? hx
      simp only [sp, List.mem_cons, List.not_mem_nil, or_false] at hm
      rcases hm with rfl | rfl | rfl | rfl | rfl
      · obtain ⟨p, _, rfl⟩ := List.mem_map.mp hxm
        cases p <;> rfl
      · obtain ⟨p, _, rfl⟩ := List.mem_map.mp hxm
        rfl
      · obtain ⟨p, _, rfl⟩ := List.mem_map.mp hxm
        rfl
      · cases List.mem_singleton.mp hxm; rfl
      · cases List.mem_singleton.mp hxm; rfl
    rw [PySem.SeqAt.eqv_refl_plain x hp] at h
    cases h
theorem pair_dp (p : Nat × Nat) : (pairD p).depth ≤ 10 := by simp [pairD, PyData.depth, PyData.depthAll]
theorem eqD_pairs {xs : List (Nat × Nat)} : Pu.eqD (.list (xs.map pairD)) (.list (xs.map pairD)) = some true := eqD_selfL _ _ pair_dp fun _ => rfl
theorem eqD_lnil : Pu.eqD (.list []) (.list []) = some true := rfl
theorem eqD_1nil {x : D} : Pu.eqD (.tuple [x]) (.tuple []) = some false := eqD_tnil
open K04 in
theorem c_parts (o : SOk W S) (o' : SOk W T) (e : EndOk W) : call prog cst (n + 5) "_law_parts" false [W.d, S.d, T.d] g = some (.sh (.bool true), g) := by
  rw [u_law_parts]
  simp_arith [F_law_parts]
  have h0 : kIe ⟨call prog cst (n + 4), cst⟩ (.li (.cons (.tu (.cons (.int 1) (.cons (.int 0) .nil))) .nil)) (.li .nil) [some (.sh W.d), some (.sh S.d), some (.sh T.d), none, none, none, none] (!decide (S.room = T.room), g) = some (.ow ((diff0 S T).map pairD), g) := by
    unfold diff0
    by_cases h : S.room = T.room
    · rw [decide_eq_true h, if_pos h]
      simp_arith [kLi_eq]
      rfl
    · rw [decide_eq_false h, if_neg h]
      simp_arith [kLi_eq]
      rfl
  simp_arith [h0, rng27]
  rw [kFo_eq share_ow (show itD _ = some ((List.range 5).map ipD) from rfl)]
  simp only [Option.bind_assoc]
  refine fo_inv_b ipD (fun zs ρ g' => g' = g ∧ zs.length ≤ 5 ∧ ∃ x, ρ = [some (.sh W.d), some (.sh S.d), some (.sh T.d), some (.sh (.list ((diff0 S T ++ zs.flatMap (diffs S T)).map pairD))), x, none, none]) (fun ρ' g' h2 => ?_) ⟨rfl, by simp, none, by simp⟩ fun zs i ρ g' hi hpre hz => ?_
  rotate_left 1
  · obtain ⟨rfl, hz5, x, rfl⟩ := hz
    have hi5 : i < 5 := List.mem_range.mp hi
    obtain ⟨a, ha⟩ := sp_get (S := S) hi5
    obtain ⟨b, hb⟩ := sp_get (S := T) hi5
    have hsm := sp_small o e ha
    have hf := flat_len (f := diffs S T) (fun i => diffs_len o e) zs
    have hd := diffs_len (T := T) (i := i) o e
    have h0l := diff0_len (S := S) (T := T)
    have hev := ev_diffs (c := ⟨call prog cst (n + 4), cst⟩) (g := g') (ρ := [some (.sh W.d), some (.sh S.d), some (.sh T.d), some (.sh (.list ((diff0 S T ++ zs.flatMap (diffs S T)).map pairD))), some (.sh (ipD i)), none, none]) (ia := 1) (ib := 2) (ip := 4) (ik := 6) ha hb (sp_len o o' ha hb) (by omega) (by omega) (by omega) (by omega) (by simp) rfl rfl rfl
    have happ : (diff0 S T ++ zs.flatMap (diffs S T)).map pairD ++ (diffs S T i).map pairD = (diff0 S T ++ (zs ++ [i]).flatMap (diffs S T)).map pairD := by
      rw [List.flatMap_append, ← List.append_assoc, List.map_append]
      simp
    refine ⟨_, rfl, [some (.sh W.d), some (.sh S.d), some (.sh T.d), some (.sh (.list ((diff0 S T ++ (zs ++ [i]).flatMap (diffs S T)).map pairD))), some (.sh (ipD i)), none, none], g', ?_, rfl, ?_, _, rfl⟩
    · simp_arith [hev, bi_addL (show ((diff0 S T ++ zs.flatMap (diffs S T)).map pairD).length + ((diffs S T i).map pairD).length ≤ sizeLine by rw [List.length_map, List.length_map, List.length_append, sizeLine_eq]; omega), happ]
    · have := hpre.length_le
      rw [List.length_range] at this
      exact this
  obtain ⟨rfl, _, x, rfl⟩ := h2
  have hdl : diff0 S T ++ (List.range 5).flatMap (diffs S T) = diffL S T := rfl
  simp_arith [hdl, c_differences o o' e, c_differences o o e, eqD_pairs, diffL_self, List.map_nil, kLi_eq, eqD_lnil, c_sizes e]
  rw [ev_lc (α := List D) PyData.tuple (fun _ => true) (fun xs => intD xs.length) (xs := sp S) (vi := .sh (.tuple ((sp S).map .tuple))) ?_ rfl ?_]
  rotate_left 1
  · simp_arith [sl2]
    rfl
  · intro xs hx
    refine ⟨_, rfl, rfl, fun _ => ⟨.sh (intD xs.length), ?_, rfl⟩⟩
    simp_arith []
    rfl
  have hsz : ((sp S).map fun xs => intD xs.length) = (sizesL W).map intD := by
    have h := sizes_ok o
    unfold Raw.sizes at h
    rw [← h]
    unfold sp rawS
    simp only [List.map_cons, List.map_nil, List.length_map]
    rfl
  simp_arith [filt_true, hsz, eqD_iL]
  rw [kFo_eq share_sh (show itD _ = some ((diffL S T).map pairD) from rfl)]
  simp only [Option.bind_assoc]
  refine fo_inv_b pairD (fun zs ρ g1 => g1 = g' ∧ ∃ r ps x4 x6, ρ = [some (.sh W.d), some (.sh S.d), some (.sh T.d), some (.sh (.list ((diffL S T).map pairD))), x4, some (.sh (stepD r ps)), x6] ∧ StepOk S T zs r ps) (fun ρ' g1 h2 => ?_) ⟨rfl, S.room, sp S, _, _, rfl, step_0⟩ fun zs p ρ g1 hp hpre hz => ?_
  · obtain ⟨rfl, r, ps, x4, x6, rfl, hst⟩ := h2
    rw [step_end o o' hst]
    have hw := fun (g : G) => c_with_part (n := n + 3) (g := g) (r := S.room) (ps := sp S) (i := 4) (k := 0) (row := [.int S.count]) (v := .int 7) rfl (by simp) (by simp) (by show 5 ≤ 10; omega)
    have h6 : ((4 + 2 : Nat) : Int) = 6 := rfl
    simp only [h6, z0, ← S_step] at hw
    simp_arith [eqD_S, eqD_1nil, hw]
    kernel_rfl
  · obtain ⟨rfl, r, ps, x4, x6, rfl, hst⟩ := hz
    rcases mem_diffL.mp hp with ⟨rfl, hne⟩ | ⟨i, k, a, b, x, y, rfl, hi, ha, hb, hx, hy, hxy⟩
    · refine ⟨_, rfl, [some (.sh W.d), some (.sh S.d), some (.sh T.d), some (.sh (.list ((diffL S T).map pairD))), some (.sh (.int 1)), some (.sh (stepD T.room ps)), some (.sh (.int 0))], g1, ?_, rfl, T.room, ps, _, _, rfl, step_room hst⟩
      have e1 : slD (stepD r ps) none (some 1) = some (.sh (.tuple [.str "state"])) := by
        have := sl_take (xs := PyData.str (Str.ofString "state") :: .int r :: ps.map .tuple) (k := 1) (by simp)
        exact this
      have e2 : slD (stepD r ps) (some 2) none = some (.sh (.tuple (ps.map .tuple))) := by
        have := sl_drop (xs := PyData.str (Str.ofString "state") :: .int r :: ps.map .tuple) (k := 1) (by simp)
        exact this
      have hl := hst.len
      have e3 : binD .add (.tuple [.str (Str.ofString "state"), .int T.room]) (.tuple (ps.map .tuple)) = some (.sh (stepD T.room ps)) := by
        rw [bi_addTs (by simp; omega)]
        rfl
      simp_arith [pairD, List.zip_cons_cons, List.zip_nil_left, List.foldl_cons, List.foldl_nil, show decide ((1 : Int) < 1) = false from rfl, e1, e2, bi_addTs, List.length_cons, List.length_nil, Nat.reduceAdd, Nat.reduceLeDiff, List.cons_append, List.nil_append, e3]
    · obtain ⟨row, hrow⟩ := get_some (show i < ps.length by rw [hst.len]; exact hi)
      have hlen := hst.row i
      rw [hrow, ha] at hlen
      have hlen : row.length = a.length := Option.some.inj hlen
      have hka : k < a.length := by
        rcases List.getElem?_eq_some_iff.mp hx with ⟨z, _⟩
        exact z
      have hsm := sp_small o e ha
      refine ⟨_, rfl, [some (.sh W.d), some (.sh S.d), some (.sh T.d), some (.sh (.list ((diffL S T).map pairD))), some (.sh (ipD i)), some (.sh (stepD r (ps.set i (row.set k y)))), some (.sh (.int (k : Nat)))], g1, ?_, rfl, r, _, _, _, rfl, step_cell hst hrow (by omega) hb hy⟩
      have hw := fun (g : G) => c_with_part (n := n + 3) (g := g) (r := r) (ps := ps) (i := i) (k := k) (row := row) (v := y) hrow (by omega) (by omega) (by rw [hst.len]; omega)
      have hgt : decide ((1 : Int) < ((i + 2 : Nat) : Int)) = true := decide_eq_true (by omega)
      simp_arith [pairD, List.zip_cons_cons, List.zip_nil_left, List.foldl_cons, List.foldl_nil, hgt, S_step, step_ix, hb, ix_get, hy, hw]
      rfl
end
end Pu.Tw
set_option Elab.async false
set_option maxRecDepth 100000
set_option maxHeartbeats 8000000
set_option linter.all false
/-! M15: ways out, effects. -/
namespace Pu.Tw
open PySem L2 Pu.St
local macro_rules | `(tactic| simp_arith [$ls,*] $[$loc]?) => `(tactic| simp only [ev_nil, ev_cons, kC1_eq, kC0_eq, kC2_eq, ev_nm, nmV_eq, ev_int, ev_str, ev_bl, ev_non, ev_gl, ev_tu, ev_li, kLi_eq, kB1_eq, kB0_eq, kB2_eq, ev_bi, ev_cm, fBi_eq, fCm_eq, ev_ch, fCh_eq, kCh_t, kCh_f, ev_neg, kNeg_eq, ev_an, ev_or, kAn_t, kAn_f, kOr_t, kOr_f, ev_no, kNo_eq, evT_eq, kT_eq, kT_ow, ev_ie, kIe_t, kIe_f, ev_ix, kIx_eq, kIx2_sh, kIx2_bw, kIx2_ow, kIx2_od, kIx2_bd, ev_sl, kSl_eq, kSl0_eq, kSl1_eq, kSl2_eq, pO_nil, pO_int, pO_nm, pO_bi, pO_ix, pO_bf, kPO_eq, ev_ca, kCa_n, evR_nil, evR_cons, kR1_eq, kR0_eq, ev_bf, kBf_eq, ev_me, kMe_eq, kMe2_eq, ev_isi, kIsi_sh, ev_r1, ev_l1, ev_r2, kR2r_eq, ex_nop, ex_seq, kS_nx, kS_rt, kS_br, kS_ct, ex_as, kAs_sh, kAs_ow, kAs_od, ex_par, evP_nil, evP_cons, kP1_eq, kP0_eq, ex_up, ex_if, kIf_t, kIf_f, ex_re, kRe_sh, kRe_ow, kRe_bw, ex_ap, ex_ex, ex_fz, fzV_ow, fzV_sh, kAp_sh, kAp_ow, apV_ow, kEx_ow, kEx_bw, exV_ow, ex_fo, ex_rn, share_sh, share_ow, rd_sh, rd_ow, rd_bw, bo_sh, bo_ow, bo_od, keep_sh, keep_ow, lst_ow, lst_bw, kF_rt, kF_nx, List.getElem?_cons_zero, List.getElem?_cons_succ, Option.bind_some, Option.map_some, List.set_cons_zero, List.set_cons_succ, String.reduceEq, decide_false, decide_true, Bool.not_true, Bool.not_false, cm_eq, cm_ne, cm_in, cm_nin, cm_is, cm_isn, eqD_str, eqD_str', eqD_int, eqD_int', eqv_str, eqv_int, ofString_inj, in_tup, in_lst, ix_0, ix_1, ix_2, ix_map, ix_mapL, W1, W2, W3, W4, W5, W6, W7, W8, W9, W10, W11, W12, S0, S1, S2, S3, S4, S5, S6, T2, T3, T4, D1, D3, D4, D5, len_tup, len_lst, bi_add, Kind.eq_box, Kind.eq_lamp, Kind.eq_thing, Kind.eq_fixed, LS.eq, LS.eq_open, LS.eq_closed, LS.eq_locked, lit_eq, on_eq, wipeE, Tg.slots, bindTg, Place.eqD, Place.eqv, Lock.eqv, List.any_cons, List.any_nil, z0, z1, cm_lt, cm_le, cm_gt, cm_ge, bi_sub, Int.natCast_inj, $ls,*] $[$loc]?)

def dirs : List Str := ["north", "south", "east", "west", "up", "down", "in", "out"]
def backOf (x : Str) : Str :=
  if x = "north" then "south" else if x = "south" then "north" else if x = "east" then "west" else if x = "west" then "east" else if x = "up" then "down" else if x = "down" then "up" else if x = "in" then "out" else "in"
def backM : List (Key × D) := [(.inr "north", .str "south"), (.inr "south", .str "north"), (.inr "east", .str "west"), (.inr "west", .str "east"), (.inr "up", .str "down"), (.inr "down", .str "up"), (.inr "in", .str "out"), (.inr "out", .str "in")]
theorem back_look {x : Str} (h : x ∈ dirs) : (keyD (.str x)).bind (lookD backM) = some (.str (backOf x)) := by
  simp only [dirs, List.mem_cons, List.not_mem_nil, or_false] at h
  rcases h with rfl | rfl | rfl | rfl | rfl | rfl | rfl | rfl <;> kernel_rfl
theorem back_dir {x : Str} (h : x ∈ dirs) : backOf x ∈ dirs := by
  simp only [dirs, List.mem_cons, List.not_mem_nil, or_false] at h
  rcases h with rfl | rfl | rfl | rfl | rfl | rfl | rfl | rfl <;> decide +kernel
structure Exit where
  told : Str
  goal : Nat
  door : Option Nat
def Exit.d (x : Exit) : D := .tuple [.str x.told, .int x.goal, optD x.door]
def doorEx (x : Door) (k r : Nat) : List Exit := (if x.one = r then [⟨x.told, x.other, some k⟩] else []) ++ (if x.other = r then [⟨backOf x.told, x.one, some k⟩] else [])
def exitsL (W : World) (r : Nat) : List Exit := (W.ways.filter fun w => decide (w.1 = r)).map (fun w => ⟨w.2.1, w.2.2, none⟩) ++ match W.doors with
  | [x] => doorEx x 0 r
  | _ => []
structure MapOk (W : World) : Prop where
  ways : ∀ w ∈ W.ways, w.2.2 < W.rooms.length
  wl : W.ways.length ≤ 50
  door : ∀ x ∈ W.doors, x.told ∈ dirs ∧ x.one < W.rooms.length ∧ x.other < W.rooms.length
section
variable {W : World} {S T : State} {g : G} {n : Nat}
theorem di_back {c : Cf} {ρ : Env} : ev c (.di (.cons (.str "north") (.cons (.str "south") (.cons (.str "south") (.cons (.str "north") (.cons (.str "east") (.cons (.str "west") (.cons (.str "west") (.cons (.str "east") (.cons (.str "up") (.cons (.str "down") (.cons (.str "down") (.cons (.str "up") (.cons (.str "in") (.cons (.str "out") (.cons (.str "out") (.cons (.str "in") .nil))))))))))))))))) ρ g = some (.od backM, g) := by kernel_rfl
theorem door_ix {x : Door} : ∃ ds, x.d = .tuple ds := ⟨_, rfl⟩
theorem kUp_door {ρ : Env} {a b c d e f : Nat} {x : Door} {g1 : G} : kUp [a, b, c, d, e, f] ρ (.sh x.d, g1) = some (.nx, (((((ρ.set a (some (.sh (.str x.name)))).set b (some (.sh (.tuple (x.phrase.map .str))))).set c (some (.sh (.int x.one)))).set d (some (.sh (.str x.told)))).set e (some (.sh (.int x.other)))).set f (some (.sh (.str x.st.s))), g1) := rfl
open K04 in
theorem c_exits (e : EndOk W) (m : MapOk W) {r : Nat} : call prog cst (n + 1) "_law_exits" false [W.d, .int r] g = some (.sh (.list ((exitsL W r).map Exit.d)), g) := by
  rw [u_law_exits]
  simp_arith [F_law_exits, di_back]
  rw [ev_lc (α := Nat × Str × Nat) wayD (fun w => decide (w.1 = r)) (fun w => Exit.d ⟨w.2.1, w.2.2, none⟩) (xs := W.ways) (vi := .sh (.tuple (W.ways.map wayD))) ?_ rfl ?_]
  rotate_left 1
  · simp_arith []
  · intro w hw
    refine ⟨_, rfl, ?_, fun _ => ⟨.sh (Exit.d ⟨w.2.1, w.2.2, none⟩), ?_, rfl⟩⟩
    · simp_arith [List.zip_cons_cons, List.zip_nil_left, List.foldl_cons, List.foldl_nil]
    · simp_arith [List.zip_cons_cons, List.zip_nil_left, List.foldl_cons, List.foldl_nil]
      rfl
  simp_arith [List.length_map]
  have hw := m.wl
  have hwf : ((W.ways.filter fun w => decide (w.1 = r)).map fun w => Exit.d ⟨w.2.1, w.2.2, none⟩).length ≤ 50 := by
    rw [List.length_map]
    exact Nat.le_trans (List.length_filter_le _ _) hw
  rw [List.length_map] at hwf
  have hbase : ((W.ways.filter fun w => decide (w.1 = r)).map fun w => Exit.d ⟨w.2.1, w.2.2, none⟩) = ((W.ways.filter fun w => decide (w.1 = r)).map fun w => (⟨w.2.1, w.2.2, none⟩ : Exit)).map Exit.d := by
    rw [List.map_map]
    rfl
  cases hd : W.doors with
  | nil =>
    rw [show (([] : List Door).length : Int) = ((0 : Nat) : Int) from rfl, kR1r_eq (by omega)]
    simp_arith [List.range_zero, List.map_nil]
    rw [kFo_eq share_ow (show itD _ = some [] from rfl)]
    simp_arith [fl_nil]
    unfold exitsL
    rw [hd, hbase]
    simp
  | cons x xs =>
    have hxs : xs = [] := by
      have := e.d1
      rw [hd, List.length_cons] at this
      exact List.length_eq_zero_iff.mp (by omega)
    subst hxs
    obtain ⟨hdir, h1, h2⟩ := m.door x (by rw [hd]; exact List.mem_cons_self)
    rw [show (([x] : List Door).length : Int) = ((1 : Nat) : Int) from rfl, kR1r_eq (by omega)]
    simp_arith [show (List.range 1).map (fun (k : Nat) => PyData.int (k : Int)) = [.int 0] from rfl]
    rw [kFo_eq share_ow (show itD _ = some [.int 0] from rfl)]
    have hix : ixD (.tuple (W.doors.map Door.d)) (.int 0) = some x.d := by rw [hd]; rfl
    have hW3 : ixD W.d (.int 3) = some (.tuple (W.doors.map Door.d)) := rfl
    have hb := back_look hdir
    simp_arith [fl_cons, fl_nil, kFl0_eq, kFl_nx, hix, kUp_door]
    have i1 : ∀ (ρ : Env) (h3 : ρ[8]? = some (some (.sh (.str x.told)))) (h4 : ρ[9]? = some (some (.sh (.int x.other)))) (h5 : ρ[4]? = some (some (.sh (.int 0)))), kIe ⟨call prog cst n, cst⟩ (.li (.cons (.tu (.cons (.nm 8) (.cons (.nm 9) (.cons (.nm 4) .nil)))) .nil)) (.li .nil) ρ (decide (x.one = r), g) = some (.ow ((if x.one = r then [(⟨x.told, x.other, some 0⟩ : Exit)] else []).map Exit.d), g) := by
      intro ρ h3 h4 h5
      by_cases h : x.one = r
      · rw [decide_eq_true h, if_pos h]
        simp_arith [h3, h4, h5, kLi_eq]
        rfl
      · rw [decide_eq_false h, if_neg h]
        simp_arith [kLi_eq]
        rfl
    have i2 : ∀ (ρ : Env) (h2 : ρ[2]? = some (some (.od backM))) (h3 : ρ[8]? = some (some (.sh (.str x.told)))) (h4 : ρ[7]? = some (some (.sh (.int x.one)))) (h5 : ρ[4]? = some (some (.sh (.int 0)))), kIe ⟨call prog cst n, cst⟩ (.li (.cons (.tu (.cons (.ix (.nm 2) (.nm 8)) (.cons (.nm 7) (.cons (.nm 4) .nil)))) .nil)) (.li .nil) ρ (decide (x.other = r), g) = some (.ow ((if x.other = r then [(⟨backOf x.told, x.one, some 0⟩ : Exit)] else []).map Exit.d), g) := by
      intro ρ h2 h3 h4 h5
      by_cases h : x.other = r
      · rw [decide_eq_true h, if_pos h]
        simp_arith [h2, h3, h4, h5, hb, kLi_eq]
        rfl
      · rw [decide_eq_false h, if_neg h]
        simp_arith [kLi_eq]
        rfl
    rw [i1 _ rfl rfl rfl]
    simp_arith []
    rw [bi_addL (by rw [List.length_map, List.length_map, sizeLine_eq]; split <;> simp <;> omega)]
    simp_arith []
    rw [i2 _ rfl rfl rfl rfl]
    simp_arith []
    rw [bi_addL (by rw [List.length_append, List.length_map, List.length_map, List.length_map, sizeLine_eq]; split <;> split <;> simp <;> omega)]
    simp_arith [kFl_nx, fl_nil]
    unfold exitsL doorEx
    rw [hd, hbase, List.append_assoc]
    simp only [List.map_append]
/-! ### effects -/
def MovOk (W : World) (t : Nat) : Prop := kindAt W t = some .thing ∨ kindAt W t = some .lamp
/-- what a deed or a rule may do to a state -/
inductive Act1 where
  | bring (t : Nat) (p : Place)
  | lock (v : LS) (l : Lock)
  | lit (b : Bool) (t : Nat)
  | mark (b : Bool)
  | less
  | go (r : Nat)
def Act1.d : Act1 → D
  | .bring t p => .tuple [.str "bring", .int t, p.d]
  | .lock v l => .tuple [.str (lockS v), l.d]
  | .lit b t => .tuple [.str (litS b), .int t]
  | .mark b => .tuple [.str (onS b), .int 0]
  | .less => .tuple [.str "less", .int 0]
  | .go r => .tuple [.str "go", .int r]
def Act1.ok (W : World) : Act1 → Prop
  | .bring t p => MovOk W t ∧ PlaceOk W p
  | .lock _ l => LockOk W l
  | .lit _ t => kindAt W t = some .lamp
  | .mark _ => True
  | .less => True
  | .go r => r < W.rooms.length
def Act1.run (W : World) (S : State) : Act1 → State
  | .bring t p => { S with places := S.places.set t p }
  | .lock v l => { S with locks := S.locks.set (lockNo W l) v }
  | .lit b t => { S with lits := S.lits.set (lampNo W t) b }
  | .mark b => { S with mark := b }
  | .less => { S with count := S.count - 1 }
  | .go r => { S with room := r }
theorem run_ok (o : SOk W S) {a : Act1} (h : a.ok W) : SOk W (a.run W S) := by
  cases a with
  | bring t p =>
    refine ⟨o.room, by show (S.places.set t p).length = _; rw [List.length_set, o.np], fun k q hq => ?_, fun k q hq hk => ?_, o.nl, o.nt, o.cnt⟩
    · have hq : (S.places.set t p)[k]? = some q := hq
      rw [List.getElem?_set] at hq
      split at hq
      · split at hq
        · cases hq; exact h.2
        · cases hq
      · exact o.pl k q hq
    · have hq : (S.places.set t p)[k]? = some q := hq
      rw [List.getElem?_set] at hq
      split at hq
      · rename_i e
        subst e
        rcases h.1 with z | z <;> rcases hk with y | y <;> rw [z] at y <;> cases y
      · exact o.fx k q hq hk
  | lock v l => exact ⟨o.room, o.np, o.pl, o.fx, by show (S.locks.set _ _).length = _; rw [List.length_set, o.nl], o.nt, o.cnt⟩
  | lit b t => exact ⟨o.room, o.np, o.pl, o.fx, o.nl, by show (S.lits.set _ _).length = _; rw [List.length_set, o.nt], o.cnt⟩
  | mark b => exact ⟨o.room, o.np, o.pl, o.fx, o.nl, o.nt, o.cnt⟩
  | less => exact ⟨o.room, o.np, o.pl, o.fx, o.nl, o.nt, by show S.count - 1 ≤ 99; have := o.cnt; omega⟩
  | go r => exact ⟨h, o.np, o.pl, o.fx, o.nl, o.nt, o.cnt⟩
theorem di_lock {c : Cf} {ρ : Env} : ev c (.di (.cons (.str "open") (.cons (.str "open") (.cons (.str "close") (.cons (.str "closed") (.cons (.str "lock") (.cons (.str "locked") .nil))))))) ρ g = some (.od [(.inr "open", .str "open"), (.inr "close", .str "closed"), (.inr "lock", .str "locked")], g) := by kernel_rfl
theorem lk_lock {v : LS} : (keyD (.str (lockS v))).bind (lookD [(.inr "open", .str "open"), (.inr "close", .str "closed"), (.inr "lock", .str "locked")]) = some (lsD v) := by cases v <;> kernel_rfl
theorem max_i {i j : Int} : bfD .max [.int i, .int j] = some (.sh (.int (if j > i then j else i))) := rfl
theorem min_i {i j : Int} : bfD .min [.int i, .int j] = some (.sh (.int (if j < i then j else i))) := rfl
theorem less_i (h : S.count ≤ 99) : (if (if (S.count : Int) + -1 < 99 then (S.count : Int) + -1 else 99) > 0 then (if (S.count : Int) + -1 < 99 then (S.count : Int) + -1 else 99) else 0) = ((S.count - 1 : Nat) : Int) := by
  have e : (if (S.count : Int) + -1 < 99 then (S.count : Int) + -1 else 99) = (S.count : Int) - 1 := by rw [if_pos (by omega)]; omega
  rw [e]
  split <;> omega
open K04 in
theorem c_effect (o : SOk W S) (e : EndOk W) {a : Act1} (h : a.ok W) : call prog cst (n + 2) "_law_effect" false [W.d, S.d, a.d] g = some (.sh (a.run W S).d, g) := by
  have ht := e.t4
  have hnp := o.np
  have hnl := sp_small (S := S) o e (i := 1) rfl
  have hnt := sp_small (S := S) o e (i := 2) rfl
  rw [List.length_map] at hnl hnt
  rw [u_law_effect]
  cases a with
  | bring t p =>
    have hlt : t < S.places.length := by
      rw [hnp]
      rcases h.1 with z | z <;> exact kind_lt z
    have hp := fun (g : G) => c_law_put (n := n) (g := g) Place.d (xs := S.places) (k := t) (x := p) hlt (by omega)
    simp_arith [F_law_effect, Act1.d, hp, sl02, sl3, bi_addTs, List.length_cons, List.length_nil, Nat.reduceAdd, Nat.reduceLeDiff, List.cons_append, List.nil_append]
    rfl
  | lock v l =>
    have hlt := lock_lt o (show LockOk W l from h)
    have hp := fun (g : G) => c_law_put (n := n) (g := g) lsD (xs := S.locks) (k := lockNo W l) (x := v) hlt (by omega)
    have hin : (decide (Str.ofString "open" = lockS v) || (decide (Str.ofString "close" = lockS v) || (decide (Str.ofString "lock" = lockS v) || false))) = true := by cases v <;> simp [lockS]
    have hbr : decide (lockS v = Str.ofString "bring") = false := by cases v <;> simp [lockS, ofString_inj]
    simp_arith [F_law_effect, ↓S3', Act1.d, hbr, hin, c_law_lock (lock_hyp e.k h), di_lock, lk_lock, hp, sl03, sl4, bi_addTs, List.length_cons, List.length_nil, Nat.reduceAdd, Nat.reduceLeDiff, List.cons_append, List.nil_append]
    rfl
  | lit b t =>
    have hlt := lamp_lt o (show kindAt W t = some .lamp from h)
    have hp := fun (g : G) => c_law_put (n := n) (g := g) ltD2 (xs := S.lits) (k := lampNo W t) (x := b) hlt (by omega)
    have hsd : ltD2 b = .str (litS b) := rfl
    rw [hsd] at hp
    have hin : (decide (Str.ofString "open" = litS b) || (decide (Str.ofString "close" = litS b) || (decide (Str.ofString "lock" = litS b) || false))) = false := by cases b <;> simp [litS, ofString_inj]
    have hin2 : (decide (Str.ofString "lit" = litS b) || (decide (Str.ofString "out" = litS b) || false)) = true := by cases b <;> simp [litS]
    have hbr : decide (litS b = Str.ofString "bring") = false := by cases b <;> simp [litS, ofString_inj]
    simp_arith [F_law_effect, ↓S4', Act1.d, hbr, hin, hin2, c_law_lamp (Nat.le_of_lt (kind_lt h)) e.k, hp, sl04, sl5, bi_addTs, List.length_cons, List.length_nil, Nat.reduceAdd, Nat.reduceLeDiff, List.cons_append, List.nil_append]
    rfl
  | mark b => cases b <;> kernel_rfl
  | less =>
    have h99 := o.cnt
    have hp := fun (g : G) (z : Int) => c_law_put (n := n) (g := g) PyData.int (xs := [(S.count : Int)]) (k := 0) (x := z) (by simp) (by simp)
    simp only [List.map_cons, List.map_nil, z0, List.set_cons_zero] at hp
    simp_arith [F_law_effect, Act1.d, Bool.or_false, sl06, kNeg_eq, min_i, max_i, less_i h99, hp, bi_addTs, List.length_cons, List.length_nil, Nat.reduceAdd, Nat.reduceLeDiff, List.cons_append, List.nil_append]
    rfl
  | go r => kernel_rfl
end
end Pu.Tw
set_option Elab.async false
set_option maxRecDepth 100000
set_option maxHeartbeats 8000000
set_option linter.all false
/-! M16: deeds refused. -/
namespace Pu.Tw
open PySem L2 Pu.St
local macro_rules | `(tactic| simp_arith [$ls,*] $[$loc]?) => `(tactic| simp only [ev_nil, ev_cons, kC1_eq, kC0_eq, kC2_eq, ev_nm, nmV_eq, ev_int, ev_str, ev_bl, ev_non, ev_gl, ev_tu, ev_li, kLi_eq, kB1_eq, kB0_eq, kB2_eq, ev_bi, ev_cm, fBi_eq, fCm_eq, ev_ch, fCh_eq, kCh_t, kCh_f, ev_neg, kNeg_eq, ev_an, ev_or, kAn_t, kAn_f, kOr_t, kOr_f, ev_no, kNo_eq, evT_eq, kT_eq, kT_ow, ev_ie, kIe_t, kIe_f, ev_ix, kIx_eq, kIx2_sh, kIx2_bw, kIx2_ow, kIx2_od, kIx2_bd, ev_sl, kSl_eq, kSl0_eq, kSl1_eq, kSl2_eq, pO_nil, pO_int, pO_nm, pO_bi, pO_ix, pO_bf, kPO_eq, ev_ca, kCa_n, evR_nil, evR_cons, kR1_eq, kR0_eq, ev_bf, kBf_eq, ev_me, kMe_eq, kMe2_eq, ev_isi, kIsi_sh, ev_r1, ev_l1, ev_r2, kR2r_eq, ex_nop, ex_seq, kS_nx, kS_rt, kS_br, kS_ct, ex_as, kAs_sh, kAs_ow, kAs_od, ex_par, evP_nil, evP_cons, kP1_eq, kP0_eq, ex_up, ex_if, kIf_t, kIf_f, ex_re, kRe_sh, kRe_ow, kRe_bw, ex_ap, ex_ex, ex_fz, fzV_ow, fzV_sh, kAp_sh, kAp_ow, apV_ow, kEx_ow, kEx_bw, exV_ow, ex_fo, ex_rn, share_sh, share_ow, rd_sh, rd_ow, rd_bw, bo_sh, bo_ow, bo_od, keep_sh, keep_ow, lst_ow, lst_bw, kF_rt, kF_nx, List.getElem?_cons_zero, List.getElem?_cons_succ, Option.bind_some, Option.map_some, List.set_cons_zero, List.set_cons_succ, String.reduceEq, decide_false, decide_true, Bool.not_true, Bool.not_false, cm_eq, cm_ne, cm_in, cm_nin, cm_is, cm_isn, eqD_str, eqD_str', eqD_int, eqD_int', eqv_str, eqv_int, ofString_inj, in_tup, in_lst, ix_0, ix_1, ix_2, ix_map, ix_mapL, W1, W2, W3, W4, W5, W6, W7, W8, W9, W10, W11, W12, S0, S1, S2, S3, S4, S5, S6, T2, T3, T4, D1, D3, D4, D5, len_tup, len_lst, bi_add, Kind.eq_box, Kind.eq_lamp, Kind.eq_thing, Kind.eq_fixed, LS.eq, LS.eq_open, LS.eq_closed, LS.eq_locked, lit_eq, on_eq, wipeE, Tg.slots, bindTg, Place.eqD, Place.eqv, Lock.eqv, List.any_cons, List.any_nil, z0, z1, cm_lt, cm_le, cm_gt, cm_ge, bi_sub, Int.natCast_inj, $ls,*] $[$loc]?)

inductive Act where
  | go (t : Str)
  | take (k : Nat)
  | drop (k : Nat)
  | put (k b : Nat)
  | open_ (l : Lock)
  | close (l : Lock)
  | unlock (l : Lock) (t : Nat)
  | lock (l : Lock) (t : Nat)
  | light (k : Nat)
  | douse (k : Nat)
  | do_ (k : Nat)
  | wait
def Act.d : Act → D
  | .go t => .tuple [.str "go", .str t]
  | .take k => .tuple [.str "take", .int k]
  | .drop k => .tuple [.str "drop", .int k]
  | .put k b => .tuple [.str "put", .int k, .int b]
  | .open_ l => .tuple [.str "open", l.d]
  | .close l => .tuple [.str "close", l.d]
  | .unlock l t => .tuple [.str "unlock", l.d, .int t]
  | .lock l t => .tuple [.str "lock", l.d, .int t]
  | .light k => .tuple [.str "light", .int k]
  | .douse k => .tuple [.str "douse", .int k]
  | .do_ k => .tuple [.str "do", .int k]
  | .wait => .tuple [.str "wait"]
def EffOk (W : World) : Eff → Prop
  | .bring t p => MovOk W t ∧ PlaceOk W p
  | .lock _ l => LockOk W l
  | .mark _ k => k = 0
  | .less k => k = 0
  | .say _ => True
  | .go r => r < W.rooms.length
structure RuleOk (W : World) (r : Rule) : Prop where
  thing : ∀ t, r.thing = some t → t < W.things.length
  cond : CondOk W r.cond
  ht : r.cond.ht ≤ 4
  effs : ∀ f ∈ r.effs, EffOk W f
  len : r.effs.length ≤ 3
structure WOk (W : World) : Prop extends EndOk W, MapOk W where
  deeds : ∀ r ∈ W.deeds, RuleOk W r
  nd : W.deeds.length ≤ 10
  afters : ∀ a ∈ W.afters, CondOk W a.1 ∧ a.1.ht ≤ 4 ∧ (∀ f ∈ a.2, EffOk W f) ∧ a.2.length ≤ 3
  na : W.afters.length ≤ 10
  keys : ∀ k ∈ W.keys, k.1 < W.things.length ∧ LockOk W k.2
  nk : W.keys.length ≤ 20
  start : W.start < W.rooms.length
  places : ∀ (k : Nat) (t : Thing), W.things[k]? = some t → PlaceOk W t.place ∧ (t.kind = .box ∨ t.kind = .fixed → ∃ r, t.place = .room r)
  count : W.count0 ≤ 99
def ActOk (W : World) : Act → Prop
  | .go _ => True
  | .take k => MovOk W k
  | .drop k => MovOk W k
  | .put k b => MovOk W k ∧ kindAt W b = some .box
  | .open_ l => LockOk W l
  | .close l => LockOk W l
  | .unlock l t => LockOk W l ∧ t < W.things.length
  | .lock l t => LockOk W l ∧ t < W.things.length
  | .light k => kindAt W k = some .lamp
  | .douse k => kindAt W k = some .lamp
  | .do_ k => k < W.deeds.length
  | .wait => True
section
variable {W : World} {S T : State} {g : G} {n : Nat}
theorem mov_lt {t : Nat} (h : MovOk W t) : t < W.things.length := by rcases h with h | h <;> exact kind_lt h
def doorOpen (S : State) (x : Exit) : Bool := match x.door with
  | none => true
  | some k => decide (S.locks[k]? = some .open_)
def goS (W : World) (S : State) (t : Str) : Str := match (exitsL W S.room).filter fun x => decide (x.told = t) with
  | [] => "way"
  | x :: _ => if doorOpen S x then "" else "closed"
theorem exit_ok (m : MapOk W) {r : Nat} {x : Exit} (h : x ∈ exitsL W r) : x.goal < W.rooms.length ∧ ∀ k, x.door = some k → k < W.doors.length := by
  unfold exitsL at h
  rcases List.mem_append.mp h with h | h
  · obtain ⟨w, hw, rfl⟩ := List.mem_map.mp h
    exact ⟨m.ways w (List.mem_filter.mp hw).1, fun k hk => by cases hk⟩
  · split at h
    · rename_i y hy
      obtain ⟨h1, h2, h3⟩ := m.door y (by rw [hy]; exact List.mem_cons_self)
      unfold doorEx at h
      rcases List.mem_append.mp h with h | h
      · split at h
        · cases List.mem_singleton.mp h
          exact ⟨h3, fun k hk => by cases hk; rw [hy]; simp⟩
        · cases h
      · split at h
        · cases List.mem_singleton.mp h
          exact ⟨h2, fun k hk => by cases hk; rw [hy]; simp⟩
        · cases h
    · cases h
theorem eqD_lnil' {xs : List D} : Pu.eqD (.list xs) (.list []) = some xs.isEmpty := by
  rw [eqD_small' (by simp [PyData.depth, PyData.depthAll])]
  cases xs <;> rfl
theorem isD_opt {r : Option Nat} : isD (optD r) .none = some (decide (r = none)) := by cases r <;> rfl
theorem X0 {x : Exit} : ixD x.d (.int 0) = some (.str x.told) := rfl
theorem X1 {x : Exit} : ixD x.d (.int 1) = some (.int x.goal) := rfl
theorem X2 {x : Exit} : ixD x.d (.int 2) = some (optD x.door) := rfl
theorem L0 {x : D} {xs : List D} : ixD (.list (x :: xs)) (.int 0) = some x := by
  show atI _ ((0 : Nat) : Int) = _
  rw [at_nat]
  rfl
theorem lk_lt (o : SOk W S) {k : Nat} (h : k < W.doors.length) : k < S.locks.length := by
  rw [o.nl]
  omega
open K04 in
theorem c_exits_told (e : EndOk W) (m : MapOk W) {c : Cf} {ρ : Env} {ik : Nat} {t : Str} {el : E} (f : Exit → D) {iE : E} {aE : E} (hi : ev c iE ρ g = some (.sh (.list ((exitsL W S.room).map Exit.d)), g))
    (h : ∀ x : Exit, ∃ ρ1, bindTg (.nm ik) x.d (wipeE ρ [ik]) = some ρ1 ∧ evT c aE ρ1 g = some (decide (x.told = t), g) ∧ ∃ v, ev c el ρ1 g = some (v, g) ∧ v.share = some (f x)) : ev c (.lc (.nm ik) iE aE el) ρ g = some (.ow (((exitsL W S.room).filter fun x => decide (x.told = t)).map f), g) := by
  refine ev_lc (α := Exit) Exit.d (fun x => decide (x.told = t)) f hi rfl fun x _ => ?_
  obtain ⟨ρ1, h1, h2, h3⟩ := h x
  exact ⟨ρ1, h1, h2, fun _ => h3⟩
/-- some text comes, the draws stay -/
def IsS (x : Option (Vl × G)) (g : G) : Prop := ∃ z, x = some (.sh (.str z), g)
theorem isS {z : Str} : IsS (some (.sh (.str z), g)) g := ⟨z, rfl⟩
theorem places_at (o : SOk W S) {k : Nat} (h : k < W.things.length) : ∃ p, S.places[k]? = some p := get_some (by rw [o.np]; exact h)
theorem T4box {k : Nat} (h : kindAt W k = some .box) : ∃ t, W.things[k]? = some t ∧ ixD t.ex (.int 0) = some (.int t.cap) := by
  obtain ⟨t, ht⟩ := get_some (kind_lt h)
  refine ⟨t, ht, ?_⟩
  rw [kind_of ht] at h
  unfold Thing.ex
  rw [Option.some.inj h]
  rfl
theorem key_dp (x : D) (h : x.depth ≤ 10) {ys : List D} : inD x (.tuple ys) = some (ys.any fun z => PyData.eqv z x) := by
  cases x <;> (unfold inD; dsimp only; rw [if_pos (Or.inl (Nat.le_trans h (by decide)))])
theorem keyt_dp (t : Nat) (l : Lock) : (PyData.tuple [.int t, l.d]).depth ≤ 10 := by cases l <;> simp [Lock.d, PyData.depth, PyData.depthAll]
open K04 in
theorem more_str (w : WOk W) (o : SOk W S) {a : Act} (h : ActOk W a) (hw : ∀ t, a ≠ .go t) (h2 : ∀ k, a ≠ .take k ∧ a ≠ .light k ∧ a ≠ .douse k ∧ a ≠ .do_ k) (h3 : a ≠ .wait) : IsS (call prog cst (n + 6) "_law_refused_more" false [W.d, S.d, a.d] g) g := by
  have e := w.toEndOk
  rw [u_law_refused_more]
  have lkq : ∀ {l : Lock}, LockOk W l → ∃ x, S.locks[lockNo W l]? = some x := fun {l} hl => get_some (lock_lt o hl)
  cases a with
  | go t => exact absurd rfl (hw t)
  | take k => exact absurd rfl (h2 k).1
  | light k => exact absurd rfl (h2 k).2.1
  | douse k => exact absurd rfl (h2 k).2.2.1
  | do_ k => exact absurd rfl (h2 k).2.2.2
  | wait => exact absurd rfl h3
  | drop k =>
    obtain ⟨p, hp⟩ := places_at o (mov_lt h)
    simp_arith [F_law_refused_more, Act.d, Bool.or_false, Bool.false_or, Bool.true_or, Bool.or_true, hp, held_d]
    cases decide (p = .held) <;> simp_arith [] <;> exact isS
  | put k b =>
    obtain ⟨p, hp⟩ := places_at o (mov_lt h.1)
    have hb := kind_lt h.2
    have hlk : LockOk W (.box b) := h.2
    obtain ⟨x, hx⟩ := lkq hlk
    obtain ⟨t, ht, ht4⟩ := T4box h.2
    have hl := fun (g : G) => c_law_lock (n := n + 4) (g := g) (lock_hyp e.k hlk)
    simp only [Lock.d] at hl
    simp_arith [F_law_refused_more, Act.d, Bool.or_false, Bool.false_or, Bool.true_or, Bool.or_true, hp, held_d]
    cases decide (p = .held) <;> simp_arith [c_sees o e.k hb]
    · exact isS
    cases seenB W S b <;> simp_arith [hl, hx]
    · exact isS
    cases decide (x = .open_) <;> simp_arith []
    · exact isS
    rw [ev_lc (α := Place) Place.d (fun p => decide (p = .box b)) Place.d (xs := S.places) (vi := .sh (.tuple (S.places.map Place.d))) ?_ rfl ?_]
    rotate_left 1
    · simp_arith []
    · intro q hq
      refine ⟨_, rfl, ?_, fun _ => ⟨.sh q.d, ?_, rfl⟩⟩
      · simp_arith [box_d]
      · simp_arith []
    simp_arith [ht, ht4]
    cases decide (t.cap ≤ (((S.places.filter fun p => decide (p = .box b)).map Place.d).length : Int)) <;> simp_arith [] <;> exact isS
  | open_ l =>
    obtain ⟨x, hx⟩ := lkq h
    simp_arith [F_law_refused_more, Act.d, Bool.or_false, Bool.false_or, Bool.true_or, Bool.or_true, c_law_lock (lock_hyp e.k h), hx]
    cases decide (x = .closed) <;> simp_arith [] <;> exact isS
  | close l =>
    obtain ⟨x, hx⟩ := lkq h
    simp_arith [F_law_refused_more, Act.d, Bool.or_false, Bool.false_or, Bool.true_or, Bool.or_true, c_law_lock (lock_hyp e.k h), hx]
    cases decide (x = .open_) <;> simp_arith [] <;> exact isS
  | unlock l t =>
    obtain ⟨x, hx⟩ := lkq h.1
    obtain ⟨p, hp⟩ := places_at o h.2
    simp_arith [F_law_refused_more, Act.d, Bool.or_false, Bool.false_or, Bool.true_or, Bool.or_true, c_law_lock (lock_hyp e.k h.1), hx, hp, held_d]
    cases decide (p = .held) <;> simp_arith [key_dp _ (keyt_dp t l)]
    · exact isS
    cases ((W.keys.map keyDD).any fun z => PyData.eqv z (.tuple [.int t, l.d])) <;> simp_arith []
    · exact isS
    cases decide (x = .locked) <;> simp_arith [] <;> exact isS
  | lock l t =>
    obtain ⟨x, hx⟩ := lkq h.1
    obtain ⟨p, hp⟩ := places_at o h.2
    simp_arith [F_law_refused_more, Act.d, Bool.or_false, Bool.false_or, Bool.true_or, Bool.or_true, c_law_lock (lock_hyp e.k h.1), hx, hp, held_d]
    cases decide (p = .held) <;> simp_arith [key_dp _ (keyt_dp t l)]
    · exact isS
    cases ((W.keys.map keyDD).any fun z => PyData.eqv z (.tuple [.int t, l.d])) <;> simp_arith []
    · exact isS
    cases decide (x = .closed) <;> simp_arith [] <;> exact isS
end
end Pu.Tw
set_option Elab.async false
set_option maxRecDepth 100000
set_option maxHeartbeats 8000000
set_option linter.all false
/-! M17: deeds refused, to the end. -/
namespace Pu.Tw
open PySem L2 Pu.St
local macro_rules | `(tactic| simp_arith [$ls,*] $[$loc]?) => `(tactic| simp only [ev_nil, ev_cons, kC1_eq, kC0_eq, kC2_eq, ev_nm, nmV_eq, ev_int, ev_str, ev_bl, ev_non, ev_gl, ev_tu, ev_li, kLi_eq, kB1_eq, kB0_eq, kB2_eq, ev_bi, ev_cm, fBi_eq, fCm_eq, ev_ch, fCh_eq, kCh_t, kCh_f, ev_neg, kNeg_eq, ev_an, ev_or, kAn_t, kAn_f, kOr_t, kOr_f, ev_no, kNo_eq, evT_eq, kT_eq, kT_ow, ev_ie, kIe_t, kIe_f, ev_ix, kIx_eq, kIx2_sh, kIx2_bw, kIx2_ow, kIx2_od, kIx2_bd, ev_sl, kSl_eq, kSl0_eq, kSl1_eq, kSl2_eq, pO_nil, pO_int, pO_nm, pO_bi, pO_ix, pO_bf, kPO_eq, ev_ca, kCa_n, evR_nil, evR_cons, kR1_eq, kR0_eq, ev_bf, kBf_eq, ev_me, kMe_eq, kMe2_eq, ev_isi, kIsi_sh, ev_r1, ev_l1, ev_r2, kR2r_eq, ex_nop, ex_seq, kS_nx, kS_rt, kS_br, kS_ct, ex_as, kAs_sh, kAs_ow, kAs_od, ex_par, evP_nil, evP_cons, kP1_eq, kP0_eq, ex_up, ex_if, kIf_t, kIf_f, ex_re, kRe_sh, kRe_ow, kRe_bw, ex_ap, ex_ex, ex_fz, fzV_ow, fzV_sh, kAp_sh, kAp_ow, apV_ow, kEx_ow, kEx_bw, exV_ow, ex_fo, ex_rn, share_sh, share_ow, rd_sh, rd_ow, rd_bw, bo_sh, bo_ow, bo_od, keep_sh, keep_ow, lst_ow, lst_bw, kF_rt, kF_nx, List.getElem?_cons_zero, List.getElem?_cons_succ, Option.bind_some, Option.map_some, List.set_cons_zero, List.set_cons_succ, String.reduceEq, decide_false, decide_true, Bool.not_true, Bool.not_false, cm_eq, cm_ne, cm_in, cm_nin, cm_is, cm_isn, eqD_str, eqD_str', eqD_int, eqD_int', eqv_str, eqv_int, ofString_inj, in_tup, in_lst, ix_0, ix_1, ix_2, ix_map, ix_mapL, W1, W2, W3, W4, W5, W6, W7, W8, W9, W10, W11, W12, S0, S1, S2, S3, S4, S5, S6, T2, T3, T4, D1, D3, D4, D5, len_tup, len_lst, bi_add, Kind.eq_box, Kind.eq_lamp, Kind.eq_thing, Kind.eq_fixed, LS.eq, LS.eq_open, LS.eq_closed, LS.eq_locked, lit_eq, on_eq, wipeE, Tg.slots, bindTg, Place.eqD, Place.eqv, Lock.eqv, List.any_cons, List.any_nil, z0, z1, cm_lt, cm_le, cm_gt, cm_ge, bi_sub, Int.natCast_inj, $ls,*] $[$loc]?)

section
variable {W : World} {S T : State} {g : G} {n : Nat}
theorem R1 {r : Rule} : ixD r.d (.int 1) = some (optD r.thing) := rfl
theorem R2 {r : Rule} : ixD r.d (.int 2) = some r.cond.d := rfl
theorem R3 {r : Rule} : ixD r.d (.int 3) = some (.tuple (r.effs.map Eff.d)) := rfl
theorem di_lit {c : Cf} {ρ : Env} : ev c (.di (.cons (.str "light") (.cons (.str "lit") (.cons (.str "douse") (.cons (.str "out") .nil))))) ρ g = some (.od [(.inr "light", .str "lit"), (.inr "douse", .str "out")], g) := by kernel_rfl
theorem lk_light : (keyD (.str (Str.ofString "light"))).bind (lookD [(.inr "light", .str "lit"), (.inr "douse", .str "out")]) = some (.str "lit") := by kernel_rfl
theorem lk_douse : (keyD (.str (Str.ofString "douse"))).bind (lookD [(.inr "light", .str "lit"), (.inr "douse", .str "out")]) = some (.str "out") := by kernel_rfl
theorem end_cases : (endS W S = Str.ofString "on") ∨ ¬ (endS W S = Str.ofString "on") := Classical.em _
open K04 in
theorem ref_str (w : WOk W) (o : SOk W S) {a : Act} (h : ActOk W a) (hw : ∀ t, a ≠ .go t) : IsS (call prog cst (n + 8) "_law_refused" false [W.d, S.d, a.d] g) g := by
  have e := w.toEndOk
  rw [u_law_refused]
  have lkq : ∀ {l : Lock}, LockOk W l → ∃ x, S.locks[lockNo W l]? = some x := fun {l} hl => get_some (lock_lt o hl)
  have hE := c_law_end (n := n) (g := g) o e
  have more := fun (hw : ∀ t, a ≠ .go t) h2 h3 => more_str (n := n + 1) (g := g) w o h hw h2 h3
  generalize endS W S = ez at hE
  cases a with
  | go t => exact absurd rfl (hw t)
  | wait =>
    simp_arith [F_law_refused, Act.d, hE]
    cases decide (ez = Str.ofString "on") <;> simp_arith [] <;> exact isS
  | take k =>
    obtain ⟨p, hp⟩ := places_at o (mov_lt h)
    obtain ⟨t, ht⟩ := get_some (mov_lt h)
    simp_arith [F_law_refused, Act.d, hE]
    cases decide (ez = Str.ofString "on") <;> simp_arith [Bool.or_false, Bool.false_or, Bool.true_or, Bool.or_true, c_sees o e.k (mov_lt h)]
    · exact isS
    cases seenB W S k <;> simp_arith [ht, Bool.or_false]
    · exact isS
    cases (decide (Str.ofString "box" = t.kind.s) || decide (Str.ofString "fixed" = t.kind.s)) <;> simp_arith [hp, held_d]
    · cases decide (p = .held) <;> simp_arith [] <;> exact isS
    · exact isS
  | light k =>
    obtain ⟨x, hx⟩ := get_some (lamp_lt o h)
    obtain ⟨t, ht⟩ := get_some (kind_lt h)
    have hk : t.kind = .lamp := by
      have := kind_of ht
      rw [show kindAt W k = some .lamp from h] at this
      exact (Option.some.inj this).symm
    simp_arith [F_law_refused, Act.d, hE]
    cases decide (ez = Str.ofString "on") <;> simp_arith [Bool.or_false, Bool.false_or, Bool.true_or, Bool.or_true, c_sees o e.k (kind_lt h)]
    · exact isS
    cases seenB W S k <;> simp_arith [ht, hk, Bool.or_false, Bool.false_or]
    · exact isS
    simp_arith [di_lit, lk_light, c_law_lamp (Nat.le_of_lt (kind_lt h)) e.k, hx]
    cases decide (x = true) <;> simp_arith [] <;> exact isS
  | douse k =>
    obtain ⟨x, hx⟩ := get_some (lamp_lt o h)
    obtain ⟨t, ht⟩ := get_some (kind_lt h)
    have hk : t.kind = .lamp := by
      have := kind_of ht
      rw [show kindAt W k = some .lamp from h] at this
      exact (Option.some.inj this).symm
    simp_arith [F_law_refused, Act.d, hE]
    cases decide (ez = Str.ofString "on") <;> simp_arith [Bool.or_false, Bool.false_or, Bool.true_or, Bool.or_true, c_sees o e.k (kind_lt h)]
    · exact isS
    cases seenB W S k <;> simp_arith [ht, hk, Bool.or_false, Bool.false_or]
    · exact isS
    simp_arith [di_lit, lk_douse, c_law_lamp (Nat.le_of_lt (kind_lt h)) e.k, hx]
    cases decide (litS x = Str.ofString "out") <;> simp_arith [] <;> exact isS
  | do_ k =>
    obtain ⟨r, hr⟩ := get_some (show k < W.deeds.length from h)
    have hro := w.deeds r (List.mem_of_getElem? hr)
    have hh := c_law_holds o e.k r.cond g (n + 5) hro.cond (by have := hro.ht; omega)
    simp_arith [F_law_refused, Act.d, hE]
    cases decide (ez = Str.ofString "on") <;> simp_arith [hr, R1, R2, isD_opt]
    · exact isS
    cases hth : r.thing with
    | none =>
      simp_arith [show decide ((none : Option Nat) = none) = true from rfl, hr, R1, R2, hh]
      cases holdsP W S r.cond <;> simp_arith [] <;> exact isS
    | some t =>
      have ht := hro.thing t hth
      simp_arith [show decide ((some t : Option Nat) = none) = false from rfl, hr, R1, R2, hh, hth, optD, c_sees o e.k ht]
      cases seenB W S t <;> simp_arith [hr, R1, R2, hh]
      · exact isS
      cases holdsP W S r.cond <;> simp_arith [] <;> exact isS
  | drop k =>
    obtain ⟨z, hz⟩ := more hw (by simp) (by simp)
    simp only [Act.d] at hz
    simp_arith [F_law_refused, Act.d, hE]
    cases decide (ez = Str.ofString "on") <;> simp_arith [Bool.or_false, hz] <;> exact isS
  | put k b =>
    obtain ⟨z, hz⟩ := more hw (by simp) (by simp)
    simp only [Act.d] at hz
    simp_arith [F_law_refused, Act.d, hE]
    cases decide (ez = Str.ofString "on") <;> simp_arith [Bool.or_false, hz] <;> exact isS
  | open_ l =>
    obtain ⟨z, hz⟩ := more hw (by simp) (by simp)
    simp only [Act.d] at hz
    simp_arith [F_law_refused, Act.d, hE]
    cases decide (ez = Str.ofString "on") <;> simp_arith [Bool.or_false, Bool.false_or, Bool.true_or, Bool.or_true, c_sees_lock o e.k (show LockOk W l from h)]
    · exact isS
    cases lockSeenB W S l <;> simp_arith [Bool.or_false, hz] <;> exact isS
  | close l =>
    obtain ⟨z, hz⟩ := more hw (by simp) (by simp)
    simp only [Act.d] at hz
    simp_arith [F_law_refused, Act.d, hE]
    cases decide (ez = Str.ofString "on") <;> simp_arith [Bool.or_false, Bool.false_or, Bool.true_or, Bool.or_true, c_sees_lock o e.k (show LockOk W l from h)]
    · exact isS
    cases lockSeenB W S l <;> simp_arith [Bool.or_false, hz] <;> exact isS
  | unlock l t =>
    obtain ⟨z, hz⟩ := more hw (by simp) (by simp)
    simp only [Act.d] at hz
    simp_arith [F_law_refused, Act.d, hE]
    cases decide (ez = Str.ofString "on") <;> simp_arith [Bool.or_false, Bool.false_or, Bool.true_or, Bool.or_true, c_sees_lock o e.k (show LockOk W l from h.1)]
    · exact isS
    cases lockSeenB W S l <;> simp_arith [Bool.or_false, hz] <;> exact isS
  | lock l t =>
    obtain ⟨z, hz⟩ := more hw (by simp) (by simp)
    simp only [Act.d] at hz
    simp_arith [F_law_refused, Act.d, hE]
    cases decide (ez = Str.ofString "on") <;> simp_arith [Bool.or_false, Bool.false_or, Bool.true_or, Bool.or_true, c_sees_lock o e.k (show LockOk W l from h.1)]
    · exact isS
    cases lockSeenB W S l <;> simp_arith [Bool.or_false, hz] <;> exact isS
open K04 in
theorem ref_go (w : WOk W) (o : SOk W S) {t : Str} : ∃ z, call prog cst (n + 8) "_law_refused" false [W.d, S.d, (Act.go t).d] g = some (.sh (.str z), g) ∧ (z = Str.ofString "" → ((exitsL W S.room).filter fun x => decide (x.told = t)) ≠ []) := by
  have e := w.toEndOk
  have hE := c_law_end (n := n) (g := g) o e
  rw [u_law_refused]
  simp_arith [F_law_refused, Act.d, hE]
  cases decide (endS W S = Str.ofString "on") <;> simp_arith []
  · exact ⟨_, rfl, fun h => by simp [ofString_inj] at h⟩
  rw [c_exits_told (S := S) (t := t) e w.toMapOk (f := Exit.d) ?_ ?_]
  rotate_left 1
  · simp_arith [c_exits e w.toMapOk]
  · intro x
    refine ⟨_, rfl, ?_, .sh x.d, ?_, rfl⟩
    · simp_arith [X0]
    · simp_arith []
  simp_arith [eqD_lnil']
  cases hf : (exitsL W S.room).filter fun x => decide (x.told = t) with
  | nil =>
    simp_arith [List.map_nil, List.isEmpty_nil]
    exact ⟨_, rfl, fun h => by simp [ofString_inj] at h⟩
  | cons x xs =>
    have hx := exit_ok w.toMapOk (x := x) (List.mem_filter.mp (by rw [hf]; exact List.mem_cons_self)).1
    simp_arith [List.map_cons, List.isEmpty_cons, L0, X2, isD_opt]
    cases hd : x.door with
    | none =>
      simp_arith [show decide ((none : Option Nat) = none) = true from rfl]
      exact ⟨_, rfl, fun _ => by simp⟩
    | some k =>
      obtain ⟨y, hy⟩ := get_some (lk_lt o (hx.2 k hd))
      simp_arith [show decide ((some k : Option Nat) = none) = false from rfl, L0, X2, hd, optD, hy]
      cases decide (y = .open_) <;> simp_arith [] <;> exact ⟨_, rfl, fun _ => by simp⟩
end
end Pu.Tw
set_option Elab.async false
set_option maxRecDepth 100000
set_option maxHeartbeats 8000000
set_option linter.all false
/-! M18: deeds done. -/
namespace Pu.Tw
open PySem L2 Pu.St
local macro_rules | `(tactic| simp_arith [$ls,*] $[$loc]?) => `(tactic| simp only [ev_nil, ev_cons, kC1_eq, kC0_eq, kC2_eq, ev_nm, nmV_eq, ev_int, ev_str, ev_bl, ev_non, ev_gl, ev_tu, ev_li, kLi_eq, kB1_eq, kB0_eq, kB2_eq, ev_bi, ev_cm, fBi_eq, fCm_eq, ev_ch, fCh_eq, kCh_t, kCh_f, ev_neg, kNeg_eq, ev_an, ev_or, kAn_t, kAn_f, kOr_t, kOr_f, ev_no, kNo_eq, evT_eq, kT_eq, kT_ow, ev_ie, kIe_t, kIe_f, ev_ix, kIx_eq, kIx2_sh, kIx2_bw, kIx2_ow, kIx2_od, kIx2_bd, ev_sl, kSl_eq, kSl0_eq, kSl1_eq, kSl2_eq, pO_nil, pO_int, pO_nm, pO_bi, pO_ix, pO_bf, kPO_eq, ev_ca, kCa_n, evR_nil, evR_cons, kR1_eq, kR0_eq, ev_bf, kBf_eq, ev_me, kMe_eq, kMe2_eq, ev_isi, kIsi_sh, ev_r1, ev_l1, ev_r2, kR2r_eq, ex_nop, ex_seq, kS_nx, kS_rt, kS_br, kS_ct, ex_as, kAs_sh, kAs_ow, kAs_od, ex_par, evP_nil, evP_cons, kP1_eq, kP0_eq, ex_up, ex_if, kIf_t, kIf_f, ex_re, kRe_sh, kRe_ow, kRe_bw, ex_ap, ex_ex, ex_fz, fzV_ow, fzV_sh, kAp_sh, kAp_ow, apV_ow, kEx_ow, kEx_bw, exV_ow, ex_fo, ex_rn, share_sh, share_ow, rd_sh, rd_ow, rd_bw, bo_sh, bo_ow, bo_od, keep_sh, keep_ow, lst_ow, lst_bw, kF_rt, kF_nx, List.getElem?_cons_zero, List.getElem?_cons_succ, Option.bind_some, Option.map_some, List.set_cons_zero, List.set_cons_succ, String.reduceEq, decide_false, decide_true, Bool.not_true, Bool.not_false, cm_eq, cm_ne, cm_in, cm_nin, cm_is, cm_isn, eqD_str, eqD_str', eqD_int, eqD_int', eqv_str, eqv_int, ofString_inj, in_tup, in_lst, ix_0, ix_1, ix_2, ix_map, ix_mapL, W1, W2, W3, W4, W5, W6, W7, W8, W9, W10, W11, W12, S0, S1, S2, S3, S4, S5, S6, T2, T3, T4, D1, D3, D4, D5, len_tup, len_lst, bi_add, Kind.eq_box, Kind.eq_lamp, Kind.eq_thing, Kind.eq_fixed, LS.eq, LS.eq_open, LS.eq_closed, LS.eq_locked, lit_eq, on_eq, wipeE, Tg.slots, bindTg, Place.eqD, Place.eqv, Lock.eqv, List.any_cons, List.any_nil, z0, z1, cm_lt, cm_le, cm_gt, cm_ge, bi_sub, Int.natCast_inj, $ls,*] $[$loc]?)

theorem fo_inv_e {α : Type} (enc : α → D) {body : Env → G → Option (Out × Env × G)} {bind : D → Env → Option Env} (inv : List α → Env → G → Prop) {ys : List α} {ρ : Env} {g : G}
    (hi : inv [] ρ g) (h : ∀ zs x ρ g, x ∈ ys → zs ++ [x] <+: ys → inv zs ρ g → ∃ ρ1, bind (enc x) ρ = some ρ1 ∧ ∃ ρ2 g2, body ρ1 g = some (.nx, ρ2, g2) ∧ inv (zs ++ [x]) ρ2 g2) :
    ∃ ρ' g', forLoop body bind (ys.map enc) ρ g = some (.nx, ρ', g') ∧ inv ys ρ' g' := by
  have key : ∀ (us zs : List α) (ρ : Env) (g : G), zs ++ us = ys → inv zs ρ g → ∃ ρ' g', forLoop body bind (us.map enc) ρ g = some (.nx, ρ', g') ∧ inv ys ρ' g' := by
    intro us
    induction us with
    | nil => intro zs ρ g e hi; rw [List.append_nil] at e; subst e; exact ⟨ρ, g, rfl, hi⟩
    | cons u us ih =>
      intro zs ρ g e hi
      obtain ⟨ρ1, h1, ρ2, g2, h2, h3⟩ := h zs u ρ g (by rw [← e]; simp) ⟨us, by rw [← e]; simp⟩ hi
      obtain ⟨ρ', g', h4, h5⟩ := ih (zs ++ [u]) ρ2 g2 (by rw [← e]; simp) h3
      refine ⟨ρ', g', ?_, h5⟩
      rw [List.map_cons]
      simp only [forLoop, h1, h2, Option.bind_eq_bind, Option.bind_some]
      exact h4
  exact key ys [] ρ g rfl hi
def effA : Eff → Option Act1
  | .bring t p => some (.bring t p)
  | .lock v l => some (.lock v l)
  | .mark b _ => some (.mark b)
  | .less _ => some .less
  | .say _ => none
  | .go r => some (.go r)
def doneB : Pu.S := (.if_ (.cm .eq (.nm 5) (.str "go")) (.seq (.as_ 1 (.bi .add (.bi .add (.sl (.nm 1) .nil (.int 1)) (.tu (.cons (.ix (.lc (.nm 9) (.ca "_law_exits" none (.cons (.nm 0) (.cons (.ix (.nm 1) (.int 1)) .nil))) (.cm .eq (.ix (.nm 9) (.int 0)) (.ix (.nm 2) (.int 1))) (.ix (.nm 9) (.int 1))) (.int 0)) .nil))) (.sl (.nm 1) (.int 2) .nil))) .nop) (.seq (.if_ (.cm .in_ (.nm 5) (.tu (.cons (.str "take") (.cons (.str "drop") (.cons (.str "put") .nil))))) (.seq (.as_ 8 (.ix (.di (.cons (.str "take") (.cons (.tu (.cons (.str "held") .nil)) (.cons (.str "drop") (.cons (.tu (.cons (.str "room") (.cons (.ix (.nm 1) (.int 1)) .nil))) (.cons (.str "put") (.cons (.tu (.cons (.str "box") (.cons (.ix (.nm 2) (.neg (.int 1))) .nil))) .nil))))))) (.nm 5))) (.seq (.as_ 1 (.ca "_law_effect" none (.cons (.nm 0) (.cons (.nm 1) (.cons (.tu (.cons (.str "bring") (.cons (.ix (.nm 2) (.int 1)) (.cons (.nm 8) .nil)))) .nil))))) (.seq (.fz 1) .nop))) (.seq (.if_ (.cm .in_ (.nm 5) (.tu (.cons (.str "light") (.cons (.str "douse") .nil)))) (.seq (.as_ 1 (.ca "_law_effect" none (.cons (.nm 0) (.cons (.nm 1) (.cons (.tu (.cons (.ix (.di (.cons (.str "light") (.cons (.str "lit") (.cons (.str "douse") (.cons (.str "out") .nil))))) (.nm 5)) (.cons (.ix (.nm 2) (.int 1)) .nil))) .nil))))) (.seq (.fz 1) .nop)) (.seq (.if_ (.cm .in_ (.nm 5) (.tu (.cons (.str "open") (.cons (.str "close") (.cons (.str "unlock") (.cons (.str "lock") .nil)))))) (.seq (.as_ 1 (.ca "_law_effect" none (.cons (.nm 0) (.cons (.nm 1) (.cons (.tu (.cons (.me .get (.di (.cons (.str "unlock") (.cons (.str "close") .nil))) (.cons (.nm 5) (.cons (.nm 5) .nil))) (.cons (.ix (.nm 2) (.int 1)) .nil))) .nil))))) (.seq (.fz 1) .nop)) .nop) .nop)) .nop)) .nop))
def doneTail : Pu.S := (.seq (.as_ 3 (.ie (.cm .eq (.nm 5) (.str "do")) (.li (.cons (.tu (.cons (.tu (.cons (.str "always") .nil)) (.cons (.ix (.ix (.ix (.nm 0) (.int 8)) (.ix (.nm 2) (.int 1))) (.int 3)) .nil))) .nil)) (.li .nil))) (.seq (.fz 3) (.seq (.fo (.tu [6, 7]) (.bi .add (.nm 3) (.bf .list (.cons (.ix (.nm 0) (.int 9)) .nil))) (.seq (.if_ (.ca "_law_holds" none (.cons (.nm 0) (.cons (.nm 1) (.cons (.nm 6) .nil)))) (.seq (.fo (.nm 9) (.nm 7) (.seq (.if_ (.cm .eq (.ix (.nm 9) (.int 0)) (.str "say")) (.seq (.as_ 4 (.bi .add (.nm 4) (.tu (.cons (.ix (.nm 9) (.int 1)) .nil)))) .nop) (.seq (.as_ 1 (.ca "_law_effect" none (.cons (.nm 0) (.cons (.nm 1) (.cons (.nm 9) .nil))))) (.seq (.fz 1) .nop))) .nop)) .nop) .nop) .nop)) (.seq (.re (.tu (.cons (.nm 1) (.cons (.nm 4) .nil)))) .nop))))
section
variable {W : World} {S T : State} {g : G} {n : Nat}
theorem done_body : K04.F_law_done.body = .seq (.par [4, 5] (.cons (.tu .nil) (.cons (.ix (.nm 2) (.int 0)) .nil))) (.seq doneB doneTail) := rfl
theorem eff_some {f : Eff} {a : Act1} (h : EffOk W f) (e : effA f = some a) : f.d = a.d ∧ a.ok W := by
  cases f <;> cases e
  · exact ⟨rfl, h⟩
  · exact ⟨rfl, h⟩
  · cases h; exact ⟨rfl, True.intro⟩
  · cases h; exact ⟨rfl, True.intro⟩
  · exact ⟨rfl, h⟩
theorem eff_word {f : Eff} {a : Act1} (e : effA f = some a) : ∃ z, ixD f.d (.int 0) = some (.str z) ∧ (z = Str.ofString "say") = False := by
  cases f with
  | bring t p => exact ⟨_, rfl, by simp [ofString_inj]⟩
  | lock v l => exact ⟨_, rfl, by cases v <;> simp [lockS, ofString_inj]⟩
  | mark b k => exact ⟨_, rfl, by cases b <;> simp [onS, ofString_inj]⟩
  | less k => exact ⟨_, rfl, by simp [ofString_inj]⟩
  | say ws => cases e
  | go r => exact ⟨_, rfl, by simp [ofString_inj]⟩
def rulesOf (W : World) : Act → List (Cond × List Eff)
  | .do_ k => match W.deeds[k]? with
    | some r => [(.always, r.effs)]
    | none => []
  | _ => []
open K04 in
theorem done_tail (w : WOk W) (o : SOk W S) {a : Act} (h : ActOk W a) {z : Str} (hz : ixD a.d (.int 0) = some (.str z)) (x8 x9 : Option Vl) :
    ∃ S' said, (ex ⟨call prog cst (n + 6), cst⟩ doneTail [some (.sh W.d), some (.sh S.d), some (.sh a.d), none, some (.sh (.tuple [])), some (.sh (.str z)), none, none, x8, x9] g).bind kF = some (.sh (.tuple [State.d S', .tuple said]), g) ∧ SOk W S' := by
  have e := w.toEndOk
  have hrules : ∀ (rest : Pu.S), (ex ⟨call prog cst (n + 6), cst⟩ (.seq ((.as_ 3 (.ie (.cm .eq (.nm 5) (.str "do")) (.li (.cons (.tu (.cons (.tu (.cons (.str "always") .nil)) (.cons (.ix (.ix (.ix (.nm 0) (.int 8)) (.ix (.nm 2) (.int 1))) (.int 3)) .nil))) .nil)) (.li .nil)))) (.seq (.fz 3) rest)) [some (.sh W.d), some (.sh S.d), some (.sh a.d), none, some (.sh (.tuple [])), some (.sh (.str z)), none, none, x8, x9] g) =
      ex ⟨call prog cst (n + 6), cst⟩ rest [some (.sh W.d), some (.sh S.d), some (.sh a.d), some (.sh (.list ((rulesOf W a).map afterD))), some (.sh (.tuple [])), some (.sh (.str z)), none, none, x8, x9] g := by
    intro rest
    cases a with
    | do_ k =>
      cases hz
      obtain ⟨r, hr⟩ := get_some (show k < W.deeds.length from h)
      simp_arith [Act.d, hr, R3, rulesOf, kLi_eq]
      rfl
    | _ => cases hz; simp_arith [kLi_eq]; rfl
  have hrok : ∀ p ∈ rulesOf W a ++ W.afters, CondOk W p.1 ∧ p.1.ht ≤ 4 ∧ (∀ f ∈ p.2, EffOk W f) ∧ p.2.length ≤ 3 := by
    intro p hp
    rcases List.mem_append.mp hp with hp | hp
    · cases a with
      | do_ k =>
        obtain ⟨r, hr⟩ := get_some (show k < W.deeds.length from h)
        unfold rulesOf at hp
        dsimp only at hp
        rw [hr] at hp
        cases List.mem_singleton.mp hp
        have hro := w.deeds r (List.mem_of_getElem? hr)
        exact ⟨True.intro, Nat.zero_le _, hro.effs, hro.len⟩
      | _ => cases hp
    · exact w.afters p hp
  have hrl : (rulesOf W a).length ≤ 1 := by
    cases a with
    | do_ k =>
      unfold rulesOf
      dsimp only
      cases W.deeds[k]? <;> simp
    | _ => simp [rulesOf]
  have hna := w.na
  unfold doneTail
  rw [hrules]
  simp_arith [list_tup]
  rw [bi_addL (by rw [List.length_map, List.length_map, sizeLine_eq]; omega), ← List.map_append]
  simp_arith []
  rw [kFo_eq share_ow (show itD _ = some ((rulesOf W a ++ W.afters).map afterD) from rfl)]
  simp only [Option.bind_assoc]
  have key : ∃ S' said, SOk W S' ∧ ∃ y6 y7 y9, forLoop (ex ⟨call prog cst (n + 6), cst⟩ (.seq (.if_ (.ca "_law_holds" none (.cons (.nm 0) (.cons (.nm 1) (.cons (.nm 6) .nil)))) (.seq (.fo (.nm 9) (.nm 7) (.seq (.if_ (.cm .eq (.ix (.nm 9) (.int 0)) (.str "say")) (.seq (.as_ 4 (.bi .add (.nm 4) (.tu (.cons (.ix (.nm 9) (.int 1)) .nil)))) .nop) (.seq (.as_ 1 (.ca "_law_effect" none (.cons (.nm 0) (.cons (.nm 1) (.cons (.nm 9) .nil))))) (.seq (.fz 1) .nop))) .nop)) .nop) .nop) .nop)) (bindTg (.tu [6, 7])) ((rulesOf W a ++ W.afters).map afterD)
      [some (.sh W.d), some (.sh S.d), some (.sh a.d), some (.sh (.list ((rulesOf W a).map afterD))), some (.sh (.tuple [])), some (.sh (.str z)), none, none, x8, x9] g = some (.nx, [some (.sh W.d), some (.sh (State.d S')), some (.sh a.d), some (.sh (.list ((rulesOf W a).map afterD))), some (.sh (.tuple said)), some (.sh (.str z)), y6, y7, x8, y9], g) := by
    have step : ∀ (zs : List (Cond × List Eff)) (p : Cond × List Eff) (ρ : Env) (g1 : G), p ∈ rulesOf W a ++ W.afters → zs ++ [p] <+: rulesOf W a ++ W.afters →
        (g1 = g ∧ ∃ S' said y6 y7 y9, ρ = [some (.sh W.d), some (.sh (State.d S')), some (.sh a.d), some (.sh (.list ((rulesOf W a).map afterD))), some (.sh (.tuple said)), some (.sh (.str z)), y6, y7, x8, y9] ∧ SOk W S' ∧ said.length ≤ 3 * zs.length) →
        ∃ ρ1, bindTg (.tu [6, 7]) (afterD p) ρ = some ρ1 ∧ ∃ ρ2 g2, ex ⟨call prog cst (n + 6), cst⟩ (.seq (.if_ (.ca "_law_holds" none (.cons (.nm 0) (.cons (.nm 1) (.cons (.nm 6) .nil)))) (.seq (.fo (.nm 9) (.nm 7) (.seq (.if_ (.cm .eq (.ix (.nm 9) (.int 0)) (.str "say")) (.seq (.as_ 4 (.bi .add (.nm 4) (.tu (.cons (.ix (.nm 9) (.int 1)) .nil)))) .nop) (.seq (.as_ 1 (.ca "_law_effect" none (.cons (.nm 0) (.cons (.nm 1) (.cons (.nm 9) .nil))))) (.seq (.fz 1) .nop))) .nop)) .nop) .nop) .nop) ρ1 g1 = some (.nx, ρ2, g2) ∧
          (g2 = g ∧ ∃ S' said y6 y7 y9, ρ2 = [some (.sh W.d), some (.sh (State.d S')), some (.sh a.d), some (.sh (.list ((rulesOf W a).map afterD))), some (.sh (.tuple said)), some (.sh (.str z)), y6, y7, x8, y9] ∧ SOk W S' ∧ said.length ≤ 3 * (zs ++ [p]).length) := by
      rintro zs p ρ g1 hp hpre ⟨rfl, Sa, said, y6, y7, y9, rfl, o1, hsl⟩
      obtain ⟨h1, h2, h3, h4⟩ := hrok p hp
      have hzl : zs.length ≤ 10 := by
        have := hpre.length_le
        rw [List.length_append, List.length_append, List.length_singleton] at this
        omega
      refine ⟨[some (.sh W.d), some (.sh (State.d Sa)), some (.sh a.d), some (.sh (.list ((rulesOf W a).map afterD))), some (.sh (.tuple said)), some (.sh (.str z)), some (.sh p.1.d), some (.sh (.tuple (p.2.map Eff.d))), x8, y9], rfl, ?_⟩
      have hh := c_law_holds o1 e.k p.1 g1 (n + 4) h1 (by omega)
      simp_arith [hh]
      cases holdsP W Sa p.1 with
      | false =>
        simp_arith []
        exact ⟨_, _, rfl, rfl, Sa, said, _, _, _, rfl, o1, by rw [List.length_append]; omega⟩
      | true =>
        simp_arith []
        rw [kFo_eq share_sh (show itD _ = some (p.2.map Eff.d) from rfl)]
        have stepI : ∀ (zs2 : List Eff) (f : Eff) (ρ : Env) (g2 : G), f ∈ p.2 → zs2 ++ [f] <+: p.2 →
            (g2 = g1 ∧ ∃ S' sd y9, ρ = [some (.sh W.d), some (.sh (State.d S')), some (.sh a.d), some (.sh (.list ((rulesOf W a).map afterD))), some (.sh (.tuple sd)), some (.sh (.str z)), some (.sh p.1.d), some (.sh (.tuple (p.2.map Eff.d))), x8, y9] ∧ SOk W S' ∧ sd.length ≤ said.length + zs2.length) →
            ∃ ρ1, bindTg (.nm 9) f.d ρ = some ρ1 ∧ ∃ ρ2 g3, ex ⟨call prog cst (n + 6), cst⟩ (.seq (.if_ (.cm .eq (.ix (.nm 9) (.int 0)) (.str "say")) (.seq (.as_ 4 (.bi .add (.nm 4) (.tu (.cons (.ix (.nm 9) (.int 1)) .nil)))) .nop) (.seq (.as_ 1 (.ca "_law_effect" none (.cons (.nm 0) (.cons (.nm 1) (.cons (.nm 9) .nil))))) (.seq (.fz 1) .nop))) .nop) ρ1 g2 = some (.nx, ρ2, g3) ∧
              (g3 = g1 ∧ ∃ S' sd y9, ρ2 = [some (.sh W.d), some (.sh (State.d S')), some (.sh a.d), some (.sh (.list ((rulesOf W a).map afterD))), some (.sh (.tuple sd)), some (.sh (.str z)), some (.sh p.1.d), some (.sh (.tuple (p.2.map Eff.d))), x8, y9] ∧ SOk W S' ∧ sd.length ≤ said.length + (zs2 ++ [f]).length) := by
          rintro zs2 f ρ g2 hf hpre2 ⟨rfl, Sb, sd, y9, rfl, o2, hsd⟩
          have hz2 : zs2.length ≤ 3 := by
            have := hpre2.length_le
            rw [List.length_append] at this
            omega
          refine ⟨[some (.sh W.d), some (.sh (State.d Sb)), some (.sh a.d), some (.sh (.list ((rulesOf W a).map afterD))), some (.sh (.tuple sd)), some (.sh (.str z)), some (.sh p.1.d), some (.sh (.tuple (p.2.map Eff.d))), x8, some (.sh f.d)], rfl, ?_⟩
          cases hfa : effA f with
          | none =>
            cases f <;> try (cases hfa; done)
            rename_i ws
            simp_arith [Eff.d, bi_addTs (show sd.length + [PyData.tuple (ws.map .str)].length ≤ 1000 by simp; omega)]
            exact ⟨_, _, rfl, rfl, Sb, _, _, rfl, o2, by rw [List.length_append, List.length_append]; simp; omega⟩
          | some b =>
            obtain ⟨k1, k2⟩ := eff_some (h3 f hf) hfa
            obtain ⟨zw, k3, k4⟩ := eff_word hfa
            have he := fun (g : G) => c_effect (n := n + 4) (g := g) o2 e k2
            rw [← k1] at he
            simp_arith [k3, k4, he]
            exact ⟨_, _, rfl, rfl, b.run W Sb, _, _, rfl, run_ok o2 k2, by rw [List.length_append]; simp; omega⟩
        obtain ⟨ρ', g', hf1, rfl, Sb, sd, y9', rfl, o2, hsd⟩ := fo_inv_e Eff.d (ys := p.2) _ ⟨rfl, Sa, said, y9, rfl, o1, by simp⟩ stepI
        rw [hf1]
        simp_arith []
        exact ⟨_, _, rfl, rfl, Sb, sd, _, _, _, rfl, o2, by rw [List.length_append]; simp; omega⟩
    obtain ⟨ρ', g', hf1, rfl, Sb, sd, y6, y7, y9, rfl, o2, hsd⟩ := fo_inv_e afterD (ys := rulesOf W a ++ W.afters) _ ⟨rfl, S, [], none, none, x9, rfl, o, by simp⟩ step
    exact ⟨Sb, sd, o2, y6, y7, y9, hf1⟩
  obtain ⟨S', said, o', y6, y7, y9, hk⟩ := key
  rw [hk]
  simp_arith []
  exact ⟨S', said, rfl, o'⟩
end
end Pu.Tw
set_option Elab.async false
set_option maxRecDepth 100000
set_option maxHeartbeats 8000000
set_option linter.all false
/-! M19: a deed done. -/
namespace Pu.Tw
open PySem L2 Pu.St
local macro_rules | `(tactic| simp_arith [$ls,*] $[$loc]?) => `(tactic| simp only [ev_nil, ev_cons, kC1_eq, kC0_eq, kC2_eq, ev_nm, nmV_eq, ev_int, ev_str, ev_bl, ev_non, ev_gl, ev_tu, ev_li, kLi_eq, kB1_eq, kB0_eq, kB2_eq, ev_bi, ev_cm, fBi_eq, fCm_eq, ev_ch, fCh_eq, kCh_t, kCh_f, ev_neg, kNeg_eq, ev_an, ev_or, kAn_t, kAn_f, kOr_t, kOr_f, ev_no, kNo_eq, evT_eq, kT_eq, kT_ow, ev_ie, kIe_t, kIe_f, ev_ix, kIx_eq, kIx2_sh, kIx2_bw, kIx2_ow, kIx2_od, kIx2_bd, ev_sl, kSl_eq, kSl0_eq, kSl1_eq, kSl2_eq, pO_nil, pO_int, pO_nm, pO_bi, pO_ix, pO_bf, kPO_eq, ev_ca, kCa_n, evR_nil, evR_cons, kR1_eq, kR0_eq, ev_bf, kBf_eq, ev_me, kMe_eq, kMe2_eq, ev_isi, kIsi_sh, ev_r1, ev_l1, ev_r2, kR2r_eq, ex_nop, ex_seq, kS_nx, kS_rt, kS_br, kS_ct, ex_as, kAs_sh, kAs_ow, kAs_od, ex_par, evP_nil, evP_cons, kP1_eq, kP0_eq, ex_up, ex_if, kIf_t, kIf_f, ex_re, kRe_sh, kRe_ow, kRe_bw, ex_ap, ex_ex, ex_fz, fzV_ow, fzV_sh, kAp_sh, kAp_ow, apV_ow, kEx_ow, kEx_bw, exV_ow, ex_fo, ex_rn, share_sh, share_ow, rd_sh, rd_ow, rd_bw, bo_sh, bo_ow, bo_od, keep_sh, keep_ow, lst_ow, lst_bw, kF_rt, kF_nx, List.getElem?_cons_zero, List.getElem?_cons_succ, Option.bind_some, Option.map_some, List.set_cons_zero, List.set_cons_succ, String.reduceEq, decide_false, decide_true, Bool.not_true, Bool.not_false, cm_eq, cm_ne, cm_in, cm_nin, cm_is, cm_isn, eqD_str, eqD_str', eqD_int, eqD_int', eqv_str, eqv_int, ofString_inj, in_tup, in_lst, ix_0, ix_1, ix_2, ix_map, ix_mapL, W1, W2, W3, W4, W5, W6, W7, W8, W9, W10, W11, W12, S0, S1, S2, S3, S4, S5, S6, T2, T3, T4, D1, D3, D4, D5, len_tup, len_lst, bi_add, Kind.eq_box, Kind.eq_lamp, Kind.eq_thing, Kind.eq_fixed, LS.eq, LS.eq_open, LS.eq_closed, LS.eq_locked, lit_eq, on_eq, wipeE, Tg.slots, bindTg, Place.eqD, Place.eqv, Lock.eqv, List.any_cons, List.any_nil, z0, z1, cm_lt, cm_le, cm_gt, cm_ge, bi_sub, Int.natCast_inj, $ls,*] $[$loc]?)

section
variable {W : World} {S T : State} {g : G} {n : Nat}
def plM (S : State) (x : D) : List (Key × D) := [(.inr "take", .tuple [.str "held"]), (.inr "drop", .tuple [.str "room", .int S.room]), (.inr "put", .tuple [.str "box", x])]
def plE : E := .di (.cons (.str "take") (.cons (.tu (.cons (.str "held") .nil)) (.cons (.str "drop") (.cons (.tu (.cons (.str "room") (.cons (.ix (.nm 1) (.int 1)) .nil))) (.cons (.str "put") (.cons (.tu (.cons (.str "box") (.cons (.ix (.nm 2) (.neg (.int 1))) .nil))) .nil))))))
theorem plE_eq : .di (.cons (.str "take") (.cons (.tu (.cons (.str "held") .nil)) (.cons (.str "drop") (.cons (.tu (.cons (.str "room") (.cons (.ix (.nm 1) (.int 1)) .nil))) (.cons (.str "put") (.cons (.tu (.cons (.str "box") (.cons (.ix (.nm 2) (.neg (.int 1))) .nil))) .nil)))))) = plE := rfl
theorem di_pl2 {c : Cf} {w x0 x1 : D} {ρ : Env} : ev c plE (some (.sh w) :: some (.sh S.d) :: some (.sh (.tuple [x0, x1])) :: ρ) g = some (.od (plM S x1), g) := by kernel_rfl
theorem di_pl3 {c : Cf} {w x0 x1 x2 : D} {ρ : Env} : ev c plE (some (.sh w) :: some (.sh S.d) :: some (.sh (.tuple [x0, x1, x2])) :: ρ) g = some (.od (plM S x2), g) := by kernel_rfl
theorem lk_take {x : D} : (keyD (.str (Str.ofString "take"))).bind (lookD (plM S x)) = some Place.held.d := by kernel_rfl
theorem lk_drop {x : D} : (keyD (.str (Str.ofString "drop"))).bind (lookD (plM S x)) = some (Place.room S.room).d := by kernel_rfl
theorem lk_put {k : Nat} : (keyD (.str (Str.ofString "put"))).bind (lookD (plM S (.int k))) = some (Place.box k).d := by kernel_rfl
theorem di_un {c : Cf} {ρ : Env} : ev c (.di (.cons (.str "unlock") (.cons (.str "close") .nil))) ρ g = some (.od [(.inr "unlock", .str "close")], g) := by kernel_rfl
theorem ge_open : meD .get (.od [(.inr "unlock", .str "close")]) [.str (Str.ofString "open"), .str (Str.ofString "open")] = some (.sh (.str (lockS .open_))) := by kernel_rfl
theorem ge_close : meD .get (.od [(.inr "unlock", .str "close")]) [.str (Str.ofString "close"), .str (Str.ofString "close")] = some (.sh (.str (lockS .closed))) := by kernel_rfl
theorem ge_unlock : meD .get (.od [(.inr "unlock", .str "close")]) [.str (Str.ofString "unlock"), .str (Str.ofString "unlock")] = some (.sh (.str (lockS .closed))) := by kernel_rfl
theorem ge_lock : meD .get (.od [(.inr "unlock", .str "close")]) [.str (Str.ofString "lock"), .str (Str.ofString "lock")] = some (.sh (.str (lockS .locked))) := by kernel_rfl
def Act.word : Act → Str
  | .go _ => "go"
  | .take _ => "take"
  | .drop _ => "drop"
  | .put _ _ => "put"
  | .open_ _ => "open"
  | .close _ => "close"
  | .unlock _ _ => "unlock"
  | .lock _ _ => "lock"
  | .light _ => "light"
  | .douse _ => "douse"
  | .do_ _ => "do"
  | .wait => "wait"
theorem act_word (a : Act) : ixD a.d (.int 0) = some (.str a.word) := by cases a <;> rfl
theorem bring_d {t : Nat} {p : Place} : PyData.tuple [.str (Str.ofString "bring"), .int t, p.d] = (Act1.bring t p).d := rfl
theorem lk_d {v : LS} {l : Lock} : PyData.tuple [.str (lockS v), l.d] = (Act1.lock v l).d := rfl
theorem lit_d1 {t : Nat} : PyData.tuple [.str (Str.ofString "lit"), .int t] = (Act1.lit true t).d := rfl
theorem lit_d0 {t : Nat} : PyData.tuple [.str (Str.ofString "out"), .int t] = (Act1.lit false t).d := rfl
open K04 in
theorem done_b (w : WOk W) (o : SOk W S) {a : Act} (h : ActOk W a) (hg : ∀ t, a = .go t → ((exitsL W S.room).filter fun x => decide (x.told = t)) ≠ []) :
    ∃ So x8, SOk W So ∧ ex ⟨call prog cst (n + 6), cst⟩ doneB [some (.sh W.d), some (.sh S.d), some (.sh a.d), none, some (.sh (.tuple [])), some (.sh (.str a.word)), none, none, none, none] g =
      some (.nx, [some (.sh W.d), some (.sh So.d), some (.sh a.d), none, some (.sh (.tuple [])), some (.sh (.str a.word)), none, none, x8, none], g) := by
  have e := w.toEndOk
  have he := fun {b : Act1} (hb : b.ok W) => c_effect (n := n + 4) (g := g) o e hb
  cases a with
  | go t =>
    have hne := hg t rfl
    cases hf : (exitsL W S.room).filter fun x => decide (x.told = t) with
    | nil => exact absurd hf hne
    | cons x xs =>
      have hx := exit_ok w.toMapOk (x := x) (List.mem_filter.mp (by rw [hf]; exact List.mem_cons_self)).1
      unfold doneB
      simp_arith [Act.d, Act.word, sl01, sl2]
      rw [c_exits_told (S := S) (t := t) e w.toMapOk (f := fun x => .int x.goal) ?_ ?_]
      rotate_left 1
      · simp_arith [c_exits e w.toMapOk]
      · intro x
        refine ⟨_, rfl, ?_, .sh (.int x.goal), ?_, rfl⟩
        · simp_arith [X0]
        · simp_arith [X1]
      rw [hf]
      simp_arith [List.map_cons, L0, bi_addTs, List.length_cons, List.length_nil, Nat.reduceAdd, Nat.reduceLeDiff, List.cons_append, List.nil_append]
      exact ⟨{ S with room := x.goal }, _, run_ok o (a := .go x.goal) hx.1, rfl⟩
  | take k =>
    have h1 : (Act1.bring k .held).ok W := ⟨h, True.intro⟩
    have h2 := he h1
    unfold doneB
    simp_arith [plE_eq, Act.d, Act.word, di_pl2, lk_take, bring_d, h2, Bool.or_false, Bool.or_true, Bool.true_or, Bool.false_or]
    exact ⟨_, _, run_ok o h1, rfl⟩
  | drop k =>
    have h1 : (Act1.bring k (.room S.room)).ok W := ⟨h, o.room⟩
    have h2 := he h1
    unfold doneB
    simp_arith [plE_eq, Act.d, Act.word, di_pl2, lk_drop, bring_d, h2, Bool.or_false, Bool.or_true, Bool.true_or, Bool.false_or]
    exact ⟨_, _, run_ok o h1, rfl⟩
  | put k b =>
    have h1 : (Act1.bring k (.box b)).ok W := ⟨h.1, h.2⟩
    have h2 := he h1
    unfold doneB
    simp_arith [plE_eq, Act.d, Act.word, di_pl3, lk_put, bring_d, h2, Bool.or_false, Bool.or_true, Bool.true_or, Bool.false_or]
    exact ⟨_, _, run_ok o h1, rfl⟩
  | open_ l =>
    have h1 : (Act1.lock .open_ l).ok W := h
    have h2 := he h1
    unfold doneB
    simp_arith [Act.d, Act.word, di_un, ge_open, lk_d, h2, Bool.or_false, Bool.or_true, Bool.true_or, Bool.false_or]
    exact ⟨_, _, run_ok o h1, rfl⟩
  | close l =>
    have h1 : (Act1.lock .closed l).ok W := h
    have h2 := he h1
    unfold doneB
    simp_arith [Act.d, Act.word, di_un, ge_close, lk_d, h2, Bool.or_false, Bool.or_true, Bool.true_or, Bool.false_or]
    exact ⟨_, _, run_ok o h1, rfl⟩
  | unlock l t =>
    have h1 : (Act1.lock .closed l).ok W := h.1
    have h2 := he h1
    unfold doneB
    simp_arith [Act.d, Act.word, di_un, ge_unlock, lk_d, h2, Bool.or_false, Bool.or_true, Bool.true_or, Bool.false_or]
    exact ⟨_, _, run_ok o h1, rfl⟩
  | lock l t =>
    have h1 : (Act1.lock .locked l).ok W := h.1
    have h2 := he h1
    unfold doneB
    simp_arith [Act.d, Act.word, di_un, ge_lock, lk_d, h2, Bool.or_false, Bool.or_true, Bool.true_or, Bool.false_or]
    exact ⟨_, _, run_ok o h1, rfl⟩
  | light k =>
    have h1 : (Act1.lit true k).ok W := h
    have h2 := he h1
    unfold doneB
    simp_arith [Act.d, Act.word, di_lit, lk_light, lit_d1, h2, Bool.or_false, Bool.or_true, Bool.true_or, Bool.false_or]
    exact ⟨_, _, run_ok o h1, rfl⟩
  | douse k =>
    have h1 : (Act1.lit false k).ok W := h
    have h2 := he h1
    unfold doneB
    simp_arith [Act.d, Act.word, di_lit, lk_douse, lit_d0, h2, Bool.or_false, Bool.or_true, Bool.true_or, Bool.false_or]
    exact ⟨_, _, run_ok o h1, rfl⟩
  | do_ k =>
    unfold doneB
    simp_arith [Act.d, Act.word, Bool.or_false, Bool.or_true, Bool.true_or, Bool.false_or]
    exact ⟨S, _, o, rfl⟩
  | wait =>
    unfold doneB
    simp_arith [Act.d, Act.word, Bool.or_false, Bool.or_true, Bool.true_or, Bool.false_or]
    exact ⟨S, _, o, rfl⟩
open K04 in
theorem c_done (w : WOk W) (o : SOk W S) {a : Act} (h : ActOk W a) (hg : ∀ t, a = .go t → ((exitsL W S.room).filter fun x => decide (x.told = t)) ≠ []) :
    ∃ So said, call prog cst (n + 7) "_law_done" false [W.d, S.d, a.d] g = some (.sh (.tuple [State.d So, .tuple said]), g) ∧ SOk W So := by
  obtain ⟨Sa, x8, o1, h1⟩ := done_b (n := n) (g := g) w o h hg
  obtain ⟨Sb, said, h2, o2⟩ := done_tail (n := n) (g := g) w o1 h (act_word a) x8 none
  refine ⟨Sb, said, ?_, o2⟩
  rw [u_law_done, done_body]
  simp only [ex_seq, ex_par, evP_cons, evP_nil, ev_tu, ev_nil, ev_ix, ev_nm, ev_int, kP1_eq, kP0_eq, keep_sh, Option.bind_some, List.getElem?_cons_zero, List.getElem?_cons_succ, nmV_eq, bo_sh, kIx_eq, kIx2_sh, rd_sh, act_word, Option.map_some, kPa_eq, setAll, List.length_cons, List.length_nil, List.set_cons_zero, List.set_cons_succ, kS_nx, h1]
  exact h2
end
end Pu.Tw
set_option Elab.async false
set_option maxRecDepth 100000
set_option maxHeartbeats 8000000
set_option linter.all false
/-! M20: all deeds. -/
namespace Pu.Tw
open PySem L2 Pu.St
local macro_rules | `(tactic| simp_arith [$ls,*] $[$loc]?) => `(tactic| simp only [ev_nil, ev_cons, kC1_eq, kC0_eq, kC2_eq, ev_nm, nmV_eq, ev_int, ev_str, ev_bl, ev_non, ev_gl, ev_tu, ev_li, kLi_eq, kB1_eq, kB0_eq, kB2_eq, ev_bi, ev_cm, fBi_eq, fCm_eq, ev_ch, fCh_eq, kCh_t, kCh_f, ev_neg, kNeg_eq, ev_an, ev_or, kAn_t, kAn_f, kOr_t, kOr_f, ev_no, kNo_eq, evT_eq, kT_eq, kT_ow, ev_ie, kIe_t, kIe_f, ev_ix, kIx_eq, kIx2_sh, kIx2_bw, kIx2_ow, kIx2_od, kIx2_bd, ev_sl, kSl_eq, kSl0_eq, kSl1_eq, kSl2_eq, pO_nil, pO_int, pO_nm, pO_bi, pO_ix, pO_bf, kPO_eq, ev_ca, kCa_n, evR_nil, evR_cons, kR1_eq, kR0_eq, ev_bf, kBf_eq, ev_me, kMe_eq, kMe2_eq, ev_isi, kIsi_sh, ev_r1, ev_l1, ev_r2, kR2r_eq, ex_nop, ex_seq, kS_nx, kS_rt, kS_br, kS_ct, ex_as, kAs_sh, kAs_ow, kAs_od, ex_par, evP_nil, evP_cons, kP1_eq, kP0_eq, ex_up, ex_if, kIf_t, kIf_f, ex_re, kRe_sh, kRe_ow, kRe_bw, ex_ap, ex_ex, ex_fz, fzV_ow, fzV_sh, kAp_sh, kAp_ow, apV_ow, kEx_ow, kEx_bw, exV_ow, ex_fo, ex_rn, share_sh, share_ow, rd_sh, rd_ow, rd_bw, bo_sh, bo_ow, bo_od, keep_sh, keep_ow, lst_ow, lst_bw, kF_rt, kF_nx, List.getElem?_cons_zero, List.getElem?_cons_succ, Option.bind_some, Option.map_some, List.set_cons_zero, List.set_cons_succ, String.reduceEq, decide_false, decide_true, Bool.not_true, Bool.not_false, cm_eq, cm_ne, cm_in, cm_nin, cm_is, cm_isn, eqD_str, eqD_str', eqD_int, eqD_int', eqv_str, eqv_int, ofString_inj, in_tup, in_lst, ix_0, ix_1, ix_2, ix_map, ix_mapL, W1, W2, W3, W4, W5, W6, W7, W8, W9, W10, W11, W12, S0, S1, S2, S3, S4, S5, S6, T2, T3, T4, D1, D3, D4, D5, len_tup, len_lst, bi_add, Kind.eq_box, Kind.eq_lamp, Kind.eq_thing, Kind.eq_fixed, LS.eq, LS.eq_open, LS.eq_closed, LS.eq_locked, lit_eq, on_eq, wipeE, Tg.slots, bindTg, Place.eqD, Place.eqv, Lock.eqv, List.any_cons, List.any_nil, z0, z1, cm_lt, cm_le, cm_gt, cm_ge, bi_sub, Int.natCast_inj, $ls,*] $[$loc]?)

theorem ex_map {α β : Type} (f : α → β) (P : α → Prop) : ∀ (ys : List β), (∀ y ∈ ys, ∃ a, P a ∧ y = f a) → ∃ L : List α, ys = L.map f ∧ (∀ a ∈ L, P a) ∧ L.length = ys.length
  | [], _ => ⟨[], rfl, fun _ h => (List.not_mem_nil h).elim, rfl⟩
  | y :: ys, h => by
    obtain ⟨a, ha, rfl⟩ := h y List.mem_cons_self
    obtain ⟨L, rfl, hL, hl⟩ := ex_map f P ys fun z hz => h z (List.mem_cons_of_mem _ hz)
    refine ⟨a :: L, rfl, fun b hb => ?_, by simp⟩
    rcases List.mem_cons.mp hb with rfl | hb
    · exact ha
    · exact hL b hb
/-- a loop that adds to a list kept in a slot -/
theorem fo_add {α β : Type} (enc : α → D) (enc2 : β → D) {body : Env → G → Option (Out × Env × G)} {bind : D → Env → Option Env} (P : β → Prop) (m : Nat) {ys : List α} {ρ : Env} {g : G} {F : Option (Out × Env × G)} (hF : forLoop body bind (ys.map enc) ρ g = F) (fr : List β → Env → Prop) {xs : List β}
    (hi : fr xs ρ) (hx : ∀ b ∈ xs, P b) (h : ∀ (zs : List α) (x : α) (us : List β) (ρ : Env), x ∈ ys → fr us ρ → (∀ b ∈ us, P b) → us.length ≤ xs.length + m * ys.length → ∃ ρ1, bind (enc x) ρ = some ρ1 ∧ ∃ ρ2 vs, body ρ1 g = some (.nx, ρ2, g) ∧ fr (us ++ vs) ρ2 ∧ (∀ b ∈ vs, P b) ∧ vs.length ≤ m) :
    ∃ ρ' us, F = some (.nx, ρ', g) ∧ fr us ρ' ∧ (∀ b ∈ us, P b) ∧ us.length ≤ xs.length + m * ys.length := by
  obtain ⟨ρ', g', h1, rfl, us, h2, h3, h4⟩ := fo_inv_e enc (ys := ys) (fun zs ρ g1 => g1 = g ∧ ∃ us, fr us ρ ∧ (∀ b ∈ us, P b) ∧ us.length ≤ xs.length + m * zs.length) (ρ := ρ) (g := g) (body := body) (bind := bind) ⟨rfl, xs, hi, hx, by simp⟩ (by
    rintro zs x ρ g1 hxm hpre ⟨rfl, us, h2, h3, h4⟩
    have hzl : zs.length + 1 ≤ ys.length := by
      have := hpre.length_le
      rwa [List.length_append, List.length_singleton] at this
    obtain ⟨ρ1, h5, ρ2, vs, h6, h7, h8, h9⟩ := h zs x us ρ hxm h2 h3 (Nat.le_trans h4 (Nat.add_le_add_left (Nat.mul_le_mul_left _ (by omega)) _))
    refine ⟨ρ1, h5, ρ2, _, h6, rfl, us ++ vs, h7, ?_, ?_⟩
    · intro b hb
      rcases List.mem_append.mp hb with hb | hb
      · exact h3 b hb
      · exact h8 b hb
    · rw [List.length_append, List.length_append, List.length_singleton, Nat.mul_add]
      omega)
  exact ⟨ρ', us, hF.symm.trans h1, h2, h3, h4⟩
section
variable {W : World} {S T : State} {g : G} {n : Nat}
def freeL (W : World) : List Nat := (List.range W.things.length).filter fun k => decide (kindAt W k = some .thing) || decide (kindAt W k = some .lamp)
theorem free_mem {k : Nat} (h : k ∈ freeL W) : MovOk W k := by
  have := (List.mem_filter.mp h).2
  rw [Bool.or_eq_true, decide_eq_true_iff, decide_eq_true_iff] at this
  exact this
theorem free_len : (freeL W).length ≤ W.things.length := by
  have := List.length_filter_le (fun k => decide (kindAt W k = some .thing) || decide (kindAt W k = some .lamp)) (List.range W.things.length)
  rw [List.length_range] at this
  exact this
theorem exits_len (e : EndOk W) (m : MapOk W) {r : Nat} : (exitsL W r).length ≤ 52 := by
  have h1 := m.wl
  have h2 := List.length_filter_le (fun w : Nat × Str × Nat => decide (w.1 = r)) W.ways
  unfold exitsL
  rw [List.length_append, List.length_map]
  split
  · unfold doorEx
    rw [List.length_append]
    split <;> split <;> simp <;> omega
  · simp; omega
theorem keyD_alike (a b : Nat × Lock) : PySem.W.alike (keyDD a) (keyDD b) = true := by
  obtain ⟨i, l⟩ := a
  obtain ⟨j, m⟩ := b
  cases l <;> cases m <;> rfl
theorem sort_keys {ks : List (Nat × Lock)} (h : ks.length ≤ 20) : ∃ ls : List (Nat × Lock), bfD .sorted [.tuple (ks.map keyDD)] = some (.ow (ls.map keyDD)) ∧ (∀ k ∈ ls, k ∈ ks) ∧ ls.length = ks.length := by
  obtain ⟨ls, h1, h2, h3⟩ := ex_map keyDD (fun k => k ∈ ks) ((ks.map keyDD).mergeSort (PySem.W.dataLe false id)) (by
    intro y hy
    rw [List.mem_mergeSort] at hy
    obtain ⟨a, ha, rfl⟩ := List.mem_map.mp hy
    exact ⟨a, ha, rfl⟩)
  refine ⟨ls, ?_, h2, by rw [h3, List.length_mergeSort, List.length_map]⟩
  show (sortL (ks.map keyDD)).map Vl.ow = _
  unfold sortL
  rw [if_pos, h1]
  · rfl
  · refine ⟨?_, .inl ?_, ?_, ?_⟩
    · unfold alikeL
      rw [List.all_eq_true]
      intro x hx
      rw [List.all_eq_true]
      intro y hy
      obtain ⟨a, _, rfl⟩ := List.mem_map.mp hx
      obtain ⟨b, _, rfl⟩ := List.mem_map.mp hy
      exact keyD_alike a b
    · rw [List.all_eq_true]
      intro x hx
      obtain ⟨a, _, rfl⟩ := List.mem_map.mp hx
      rfl
    · exact Nat.le_trans (dpt_map keyDD 3 ks fun k _ => by cases k with | mk i l => cases l <;> simp [keyDD, Lock.d, PyData.depth, PyData.depthAll]) (by decide)
    · rw [List.length_map, sizeLine_eq]; omega
theorem key_bind {ρ : Env} {k : Nat × Lock} : bindTg (.tu [8, 7]) (keyDD k) ρ = some ((ρ.set 8 (some (.sh (.int k.1)))).set 7 (some (.sh k.2.d))) := rfl
theorem kR1i {n : Nat} (h : n ≤ 16777216) {g1 : G} : kR1r (.sh (.int n), g1) = some (.ow ((List.range n).map intD), g1) := kR1r_eq h
theorem itL {xs : List D} : itD (.list xs) = some xs := rfl
theorem dirs_len {p : Str → Bool} : (dirs.filter p).length ≤ 8 := List.length_filter_le _ _
open K04 in
theorem c_law_all (w : WOk W) : ∃ L : List Act, call prog cst (n + 2) "_law_all" false [W.d] g = some (.ow (L.map Act.d), g) ∧ (∀ a ∈ L, ActOk W a) ∧ L.length ≤ 1000 := by
  have e := w.toEndOk
  have m := w.toMapOk
  have hr4 := e.r4
  have ht4 := e.t4
  have hd1 := e.d1
  have hfl := free_len (W := W)
  have hbl := boxL_len (W := W)
  have hnk := w.nk
  have hnd := w.nd
  rw [u_law_all]
  simp_arith [F_law_all, kLi_eq, List.length_map, kR1i (show W.rooms.length ≤ 16777216 by omega)]
  rw [kFo_eq share_ow itL]
  generalize hF : forLoop _ _ ((List.range W.rooms.length).map intD) _ g = F
  obtain ⟨ρ', told, hf, ⟨y2, rfl⟩, -, htl⟩ := fo_add (β := Str) intD PyData.str (P := fun _ => True) 52 hF (xs := [])
    (fun us ρ => ∃ y2, ρ = [some (.sh W.d), some (.sh (.list (us.map .str))), y2, none, none, none, none, none, none, none, none]) ⟨none, rfl⟩ (fun _ _ => True.intro) (by
      rintro zs x us ρ hx ⟨y2, rfl⟩ - hul
      refine ⟨[some (.sh W.d), some (.sh (.list (us.map .str))), some (.sh (.int x)), none, none, none, none, none, none, none, none], rfl, ?_⟩
      have hxl := exits_len e m (r := x)
      rw [List.length_range, List.length_nil] at hul
      simp_arith []
      rw [ev_lc (α := Exit) Exit.d (fun _ => true) (fun x => .str x.told) (xs := exitsL W x) (vi := .sh (.list ((exitsL W x).map Exit.d))) ?_ rfl ?_]
      rotate_left 1
      · simp_arith [c_exits e m]
      · intro x _
        refine ⟨_, rfl, rfl, fun _ => ⟨.sh (.str x.told), ?_, rfl⟩⟩
        simp_arith [X0]
      simp_arith [filt_true]
      rw [bi_addL (by rw [List.length_map, List.length_map, sizeLine_eq]; omega)]
      simp_arith []
      exact ⟨_, (exitsL W x).map Exit.told, rfl, ⟨some (.sh (.int x)), by rw [List.map_append, List.map_map]; rfl⟩, fun _ _ => True.intro, by rw [List.length_map]; exact hxl⟩)
  subst hf
  simp_arith []
  rw [ev_lc (α := Str) PyData.str (fun x => (told.map PyData.str).any fun z => PyData.eqv z (.str x)) (fun t => (Act.go t).d) (xs := dirs) (vi := .sh (.tuple (dirs.map .str))) ?_ rfl ?_]
  rotate_left 1
  · simp_arith []; rfl
  · intro x _
    refine ⟨_, rfl, ?_, fun _ => ⟨.sh (Act.go x).d, ?_, rfl⟩⟩
    · simp_arith []
    · simp_arith []; rfl
  simp_arith [List.length_map, kR1i (show W.things.length ≤ 16777216 by omega)]
  rw [ev_lc (α := Nat) intD (fun k => decide (kindAt W k = some .thing) || decide (kindAt W k = some .lamp)) intD (xs := List.range W.things.length) (vi := .ow ((List.range W.things.length).map intD)) ?_ rfl ?_]
  rotate_left 1
  · simp_arith [List.length_map, kR1i (show W.things.length ≤ 16777216 by omega)]
  · intro k hk
    have hk := List.mem_range.mp hk
    obtain ⟨t, ht⟩ := get_some hk
    refine ⟨_, rfl, ?_, fun _ => ⟨_, rfl, rfl⟩⟩
    simp_arith [intD, ht, kind_of ht]
    cases t.kind <;> simp [Kind.s, ofString_inj]
  simp_arith []
  rw [ev_lc (α := Nat) intD (fun k => decide (kindAt W k = some .box)) intD (xs := List.range W.things.length) (vi := .ow ((List.range W.things.length).map intD)) ?_ rfl ?_]
  rotate_left 1
  · simp_arith [List.length_map, kR1i (show W.things.length ≤ 16777216 by omega)]
  · intro k hk
    have hk := List.mem_range.mp hk
    refine ⟨_, rfl, ?_, fun _ => ⟨_, rfl, rfl⟩⟩
    simp_arith [intD, List.getElem?_eq_getElem hk]
    simp [kindAt, hk]
  simp_arith [show (List.range W.things.length).filter (fun k => decide (kindAt W k = some .thing) || decide (kindAt W k = some .lamp)) = freeL W from rfl, show (List.range W.things.length).filter (fun k => decide (kindAt W k = some .box)) = boxL W from rfl]
  rw [ev_lc (α := Nat) intD (fun _ => true) (fun k => (Act.take k).d) (xs := freeL W) (vi := .sh (.list ((freeL W).map intD))) ?_ rfl ?_]
  rotate_left 1
  · simp_arith []
  · intro k _
    exact ⟨_, rfl, rfl, fun _ => ⟨.sh (Act.take k).d, rfl, rfl⟩⟩
  have hdl := dirs_len (p := fun x => (told.map PyData.str).any fun z => PyData.eqv z (.str x))
  generalize hdf : dirs.filter (fun x => (told.map PyData.str).any fun z => PyData.eqv z (.str x)) = ds
  rw [hdf] at hdl
  simp_arith [filt_true]
  rw [bi_addL (by rw [List.length_map, List.length_map, sizeLine_eq]; omega)]
  simp_arith []
  rw [ev_lc (α := Nat) intD (fun _ => true) (fun k => (Act.drop k).d) (xs := freeL W) (vi := .sh (.list ((freeL W).map intD))) ?_ rfl ?_]
  rotate_left 1
  · simp_arith []
  · intro k _
    exact ⟨_, rfl, rfl, fun _ => ⟨.sh (Act.drop k).d, rfl, rfl⟩⟩
  simp_arith [filt_true]
  rw [bi_addL (by rw [List.length_append, List.length_map, List.length_map, List.length_map, sizeLine_eq]; omega)]
  simp_arith []
  have base : (ds.map fun t => (Act.go t).d) ++ ((freeL W).map fun k => (Act.take k).d) ++ ((freeL W).map fun k => (Act.drop k).d) = (ds.map Act.go ++ (freeL W).map Act.take ++ (freeL W).map Act.drop).map Act.d := by
    simp only [List.map_append, List.map_map]; rfl
  rw [base]
  have hbase : ∀ a ∈ ds.map Act.go ++ (freeL W).map Act.take ++ (freeL W).map Act.drop, ActOk W a := by
    intro a ha
    rcases List.mem_append.mp ha with ha | ha
    · rcases List.mem_append.mp ha with ha | ha
      · obtain ⟨t, _, rfl⟩ := List.mem_map.mp ha
        exact True.intro
      · obtain ⟨t, ht, rfl⟩ := List.mem_map.mp ha
        exact free_mem ht
    · obtain ⟨t, ht, rfl⟩ := List.mem_map.mp ha
      exact free_mem ht
  have hlen : (ds.map Act.go ++ (freeL W).map Act.take ++ (freeL W).map Act.drop).length ≤ 16 := by
    simp only [List.length_append, List.length_map]; omega
  generalize ds.map Act.go ++ (freeL W).map Act.take ++ (freeL W).map Act.drop = A1 at hbase hlen ⊢
  rw [kFo_eq share_sh itL]
  generalize hF : forLoop _ _ ((freeL W).map intD) _ g = F
  obtain ⟨ρ', A2, hf, ⟨y6, y10, rfl⟩, hA2, hl2⟩ := fo_add (β := Act) intD Act.d (P := ActOk W) 4 hF (xs := A1)
    (fun us ρ => ∃ y6 y10, ρ = [some (.sh W.d), some (.sh (.list (told.map .str))), y2, some (.sh (.list (us.map Act.d))), some (.sh (.list ((freeL W).map intD))), some (.sh (.list ((boxL W).map intD))), y6, none, none, none, y10]) ⟨none, none, rfl⟩ hbase (by
      rintro zs x us ρ hx ⟨y6, y10, rfl⟩ - hul
      refine ⟨[some (.sh W.d), some (.sh (.list (told.map .str))), y2, some (.sh (.list (us.map Act.d))), some (.sh (.list ((freeL W).map intD))), some (.sh (.list ((boxL W).map intD))), some (.sh (.int x)), none, none, none, y10], rfl, ?_⟩
      simp_arith []
      rw [ev_lc (α := Nat) intD (fun _ => true) (fun b => (Act.put x b).d) (xs := boxL W) (vi := .sh (.list ((boxL W).map intD))) ?_ rfl ?_]
      rotate_left 1
      · simp_arith []
      · intro k _
        exact ⟨_, rfl, rfl, fun _ => ⟨.sh (Act.put x k).d, rfl, rfl⟩⟩
      simp_arith [filt_true]
      rw [bi_addL (by rw [List.length_map, List.length_map, sizeLine_eq]; omega)]
      simp_arith []
      refine ⟨_, (boxL W).map (Act.put x), rfl, ⟨some (.sh (.int x)), y10, by rw [List.map_append, List.map_map]; rfl⟩, ?_, by rw [List.length_map]; omega⟩
      intro b hb
      obtain ⟨k, hk, rfl⟩ := List.mem_map.mp hb
      exact ⟨free_mem hx, box_mem hk⟩)
  subst hf
  simp_arith [List.length_map, kR1i (show W.doors.length ≤ 16777216 by omega)]
  rw [ev_lc (α := Nat) intD (fun _ => true) (fun k => (Lock.door k).d) (xs := List.range W.doors.length) (vi := .ow ((List.range W.doors.length).map intD)) ?_ rfl ?_]
  rotate_left 1
  · simp_arith [List.length_map, kR1i (show W.doors.length ≤ 16777216 by omega)]
  · intro k _
    exact ⟨_, rfl, rfl, fun _ => ⟨.sh (Lock.door k).d, rfl, rfl⟩⟩
  simp_arith [filt_true]
  rw [ev_lc (α := Nat) intD (fun _ => true) (fun k => (Lock.box k).d) (xs := boxL W) (vi := .sh (.list ((boxL W).map intD))) ?_ rfl ?_]
  rotate_left 1
  · simp_arith []
  · intro k _
    exact ⟨_, rfl, rfl, fun _ => ⟨.sh (Lock.box k).d, rfl, rfl⟩⟩
  simp_arith [filt_true]
  rw [bi_addL (by rw [List.length_map, List.length_map, List.length_range, sizeLine_eq]; omega)]
  simp_arith []
  rw [show (List.range W.doors.length).map (fun k => (Lock.door k).d) ++ (boxL W).map (fun k => (Lock.box k).d) = (locksL W).map Lock.d by unfold locksL; rw [List.map_append, List.map_map, List.map_map]; rfl]
  rw [kFo_eq share_ow itL]
  have hll : (locksL W).length ≤ 5 := by unfold locksL; rw [List.length_append, List.length_map, List.length_map, List.length_range]; omega
  generalize hF : forLoop _ _ ((locksL W).map Lock.d) _ g = F
  obtain ⟨ρ', A3, hf, ⟨y7, rfl⟩, hA3, hl3⟩ := fo_add (β := Act) Lock.d Act.d (P := ActOk W) 2 hF (xs := A2)
    (fun us ρ => ∃ y7, ρ = [some (.sh W.d), some (.sh (.list (told.map .str))), y2, some (.sh (.list (us.map Act.d))), some (.sh (.list ((freeL W).map intD))), some (.sh (.list ((boxL W).map intD))), y6, y7, none, none, y10]) ⟨none, rfl⟩ hA2 (by
      rintro zs x us ρ hx ⟨y7, rfl⟩ - hul
      refine ⟨[some (.sh W.d), some (.sh (.list (told.map .str))), y2, some (.sh (.list (us.map Act.d))), some (.sh (.list ((freeL W).map intD))), some (.sh (.list ((boxL W).map intD))), y6, some (.sh x.d), none, none, y10], rfl, ?_⟩
      simp_arith [kLi_eq]
      rw [bi_addL (by rw [List.length_map, sizeLine_eq]; simp only [List.length_cons, List.length_nil]; omega)]
      simp_arith []
      refine ⟨_, [.open_ x, .close x], rfl, ⟨some (.sh x.d), by rw [List.map_append]; rfl⟩, ?_, by simp⟩
      intro b hb
      have hxo : LockOk W x := by
        unfold locksL at hx
        rcases List.mem_append.mp hx with hx | hx
        · obtain ⟨k, hk, rfl⟩ := List.mem_map.mp hx
          exact List.mem_range.mp hk
        · obtain ⟨k, hk, rfl⟩ := List.mem_map.mp hx
          exact box_mem hk
      rcases List.mem_cons.mp hb with rfl | hb
      · exact hxo
      · cases List.mem_singleton.mp hb
        exact hxo)
  subst hf
  obtain ⟨ks, hks, hkm, hkl⟩ := sort_keys hnk
  simp_arith [hks]
  rw [kFo_eq share_ow itL]
  generalize hF : forLoop _ _ (ks.map keyDD) _ g = F
  obtain ⟨ρ', A4, hf, ⟨y7, y8, rfl⟩, hA4, hl4⟩ := fo_add (β := Act) keyDD Act.d (P := ActOk W) 2 hF (xs := A3)
    (fun us ρ => ∃ y7 y8, ρ = [some (.sh W.d), some (.sh (.list (told.map .str))), y2, some (.sh (.list (us.map Act.d))), some (.sh (.list ((freeL W).map intD))), some (.sh (.list ((boxL W).map intD))), y6, y7, y8, none, y10]) ⟨y7, none, rfl⟩ hA3 (by
      rintro zs x us ρ hx ⟨y7, y8, rfl⟩ - hul
      refine ⟨[some (.sh W.d), some (.sh (.list (told.map .str))), y2, some (.sh (.list (us.map Act.d))), some (.sh (.list ((freeL W).map intD))), some (.sh (.list ((boxL W).map intD))), y6, some (.sh x.2.d), some (.sh (.int x.1)), none, y10], rfl, ?_⟩
      simp_arith [kLi_eq]
      rw [bi_addL (by rw [List.length_map, sizeLine_eq]; simp only [List.length_cons, List.length_nil]; omega)]
      simp_arith []
      refine ⟨_, [.unlock x.2 x.1, .lock x.2 x.1], rfl, ⟨some (.sh x.2.d), some (.sh (.int x.1)), by rw [List.map_append]; rfl⟩, ?_, by simp⟩
      intro b hb
      have hxo := w.keys x (hkm x hx)
      rcases List.mem_cons.mp hb with rfl | hb
      · exact ⟨hxo.2, hxo.1⟩
      · cases List.mem_singleton.mp hb
        exact ⟨hxo.2, hxo.1⟩)
  subst hf
  simp_arith [List.length_map, kR1i (show W.things.length ≤ 16777216 by omega)]
  rw [kFo_eq share_ow itL]
  generalize hF : forLoop _ _ ((List.range W.things.length).map intD) _ g = F
  obtain ⟨ρ', A5, hf, ⟨y6, rfl⟩, hA5, hl5⟩ := fo_add (β := Act) intD Act.d (P := ActOk W) 2 hF (xs := A4)
    (fun us ρ => ∃ y6, ρ = [some (.sh W.d), some (.sh (.list (told.map .str))), y2, some (.sh (.list (us.map Act.d))), some (.sh (.list ((freeL W).map intD))), some (.sh (.list ((boxL W).map intD))), y6, y7, y8, none, y10]) ⟨y6, rfl⟩ hA4 (by
      rintro zs x us ρ hx ⟨y6, rfl⟩ - hul
      refine ⟨[some (.sh W.d), some (.sh (.list (told.map .str))), y2, some (.sh (.list (us.map Act.d))), some (.sh (.list ((freeL W).map intD))), some (.sh (.list ((boxL W).map intD))), some (.sh (.int x)), y7, y8, none, y10], rfl, ?_⟩
      rw [List.length_range] at hul
      have hx := List.mem_range.mp hx
      obtain ⟨t, ht⟩ := get_some hx
      simp_arith [ht]
      by_cases hk : t.kind = .lamp
      · simp_arith [hk, kLi_eq]
        rw [bi_addL (by rw [List.length_map, sizeLine_eq]; simp only [List.length_cons, List.length_nil]; omega)]
        simp_arith []
        refine ⟨_, [.light x, .douse x], rfl, ⟨some (.sh (.int x)), by rw [List.map_append]; rfl⟩, ?_, by simp⟩
        intro b hb
        have hxo : kindAt W x = some .lamp := by rw [kind_of ht, hk]
        rcases List.mem_cons.mp hb with rfl | hb
        · exact hxo
        · cases List.mem_singleton.mp hb
          exact hxo
      · simp_arith [decide_eq_false hk, kLi_eq]
        rw [bi_addL (by rw [List.length_map, sizeLine_eq]; simp only [List.length_nil]; omega)]
        simp_arith []
        exact ⟨_, [], rfl, ⟨some (.sh (.int x)), by rw [List.map_append]; rfl⟩, fun _ h => (List.not_mem_nil h).elim, by simp⟩)
  subst hf
  rw [List.length_range] at hl5
  simp_arith [List.length_map, kR1i (show W.deeds.length ≤ 16777216 by omega)]
  rw [ev_lc (α := Nat) intD (fun _ => true) (fun k => (Act.do_ k).d) (xs := List.range W.deeds.length) (vi := .ow ((List.range W.deeds.length).map intD)) ?_ rfl ?_]
  rotate_left 1
  · simp_arith [List.length_map, kR1i (show W.deeds.length ≤ 16777216 by omega)]
  · intro k _
    exact ⟨_, rfl, rfl, fun _ => ⟨.sh (Act.do_ k).d, rfl, rfl⟩⟩
  simp_arith [filt_true, kLi_eq]
  rw [bi_addL (by rw [List.length_map, List.length_map, List.length_range, sizeLine_eq]; omega)]
  simp_arith [kLi_eq]
  rw [bi_addL (by rw [List.length_append, List.length_map, List.length_map, List.length_range, sizeLine_eq]; simp only [List.length_cons, List.length_nil]; omega)]
  simp_arith []
  refine ⟨A5 ++ (List.range W.deeds.length).map Act.do_ ++ [.wait], ?_, ?_, by simp only [List.length_append, List.length_map, List.length_range, List.length_cons, List.length_nil]; omega⟩
  · simp only [List.map_append, List.map_map]
    rfl
  · intro a ha
    rcases List.mem_append.mp ha with ha | ha
    · rcases List.mem_append.mp ha with ha | ha
      · exact hA5 a ha
      · obtain ⟨k, hk, rfl⟩ := List.mem_map.mp ha
        exact List.mem_range.mp hk
    · cases List.mem_singleton.mp ha
      exact True.intro
end
end Pu.Tw
set_option Elab.async false
set_option maxRecDepth 100000
set_option maxHeartbeats 8000000
set_option linter.all false
/-! M21: draws; states met. -/
namespace Pu.Tw
open PySem L2 Pu.St
local macro_rules | `(tactic| simp_arith [$ls,*] $[$loc]?) => `(tactic| simp only [ev_nil, ev_cons, kC1_eq, kC0_eq, kC2_eq, ev_nm, nmV_eq, ev_int, ev_str, ev_bl, ev_non, ev_gl, ev_tu, ev_li, kLi_eq, kB1_eq, kB0_eq, kB2_eq, ev_bi, ev_cm, fBi_eq, fCm_eq, ev_ch, fCh_eq, kCh_t, kCh_f, ev_neg, kNeg_eq, ev_an, ev_or, kAn_t, kAn_f, kOr_t, kOr_f, ev_no, kNo_eq, evT_eq, kT_eq, kT_ow, ev_ie, kIe_t, kIe_f, ev_ix, kIx_eq, kIx2_sh, kIx2_bw, kIx2_ow, kIx2_od, kIx2_bd, ev_sl, kSl_eq, kSl0_eq, kSl1_eq, kSl2_eq, pO_nil, pO_int, pO_nm, pO_bi, pO_ix, pO_bf, kPO_eq, ev_ca, kCa_n, evR_nil, evR_cons, kR1_eq, kR0_eq, ev_bf, kBf_eq, ev_me, kMe_eq, kMe2_eq, ev_isi, kIsi_sh, ev_r1, ev_l1, ev_r2, kR2r_eq, ex_nop, ex_seq, kS_nx, kS_rt, kS_br, kS_ct, ex_as, kAs_sh, kAs_ow, kAs_od, ex_par, evP_nil, evP_cons, kP1_eq, kP0_eq, ex_up, ex_if, kIf_t, kIf_f, ex_re, kRe_sh, kRe_ow, kRe_bw, ex_ap, ex_ex, ex_fz, fzV_ow, fzV_sh, kAp_sh, kAp_ow, apV_ow, kEx_ow, kEx_bw, exV_ow, ex_fo, ex_rn, share_sh, share_ow, rd_sh, rd_ow, rd_bw, bo_sh, bo_ow, bo_od, keep_sh, keep_ow, lst_ow, lst_bw, kF_rt, kF_nx, List.getElem?_cons_zero, List.getElem?_cons_succ, Option.bind_some, Option.map_some, List.set_cons_zero, List.set_cons_succ, String.reduceEq, decide_false, decide_true, Bool.not_true, Bool.not_false, cm_eq, cm_ne, cm_in, cm_nin, cm_is, cm_isn, eqD_str, eqD_str', eqD_int, eqD_int', eqv_str, eqv_int, ofString_inj, in_tup, in_lst, ix_0, ix_1, ix_2, ix_map, ix_mapL, W1, W2, W3, W4, W5, W6, W7, W8, W9, W10, W11, W12, S0, S1, S2, S3, S4, S5, S6, T2, T3, T4, D1, D3, D4, D5, len_tup, len_lst, bi_add, Kind.eq_box, Kind.eq_lamp, Kind.eq_thing, Kind.eq_fixed, LS.eq, LS.eq_open, LS.eq_closed, LS.eq_locked, lit_eq, on_eq, wipeE, Tg.slots, bindTg, Place.eqD, Place.eqv, Lock.eqv, List.any_cons, List.any_nil, z0, z1, cm_lt, cm_le, cm_gt, cm_ge, bi_sub, Int.natCast_inj, $ls,*] $[$loc]?)

theorem take_g (g : G) {m : Nat} (h1 : 1 ≤ m) (h2 : m ≤ 1000) : ∃ (i : Nat) (g1 : G), takeG g (m : Int) = some ((i : Int), g1) ∧ i < m := by
  unfold takeG
  by_cases h : (m : Int) < 2
  · rw [if_pos h]
    exact ⟨0, g, rfl, h1⟩
  · rw [if_neg h, if_neg (show ¬ (1073741824 ≤ (m : Int)) by omega)]
    dsimp only
    split
    · exact ⟨_, _, rfl, Nat.mod_lt _ (by omega)⟩
    · exact ⟨_, _, rfl, Nat.mod_lt _ (by omega)⟩
theorem take_z (g : G) : takeG g 0 = some (0, g) := rfl
theorem kCa_g0 {c : Cf} {f : Str} {ρ : Env} {ds : List D} {g1 : G} : kCa c f (some 0) (some .gen :: ρ) (.sh (.tuple ds), g1) = c.call f true ds g1 := rfl
theorem kCa_g1 {c : Cf} {f : Str} {x : Option Vl} {ρ : Env} {ds : List D} {g1 : G} : kCa c f (some 1) (x :: some .gen :: ρ) (.sh (.tuple ds), g1) = c.call f true ds g1 := rfl
theorem lc_gen {α β : Type} (enc : α → D) (f : β → D) (Q : β → Prop) {fc : Env → G → Option (Bool × G)} {fe : Env → G → Option (List D × G)} {bind : D → Env → Option Env} {ρ : Env} : ∀ (xs : List α) (g : G),
    (∀ x ∈ xs, ∀ g, ∃ ρ1, bind (enc x) ρ = some ρ1 ∧ ∃ (b : Bool) (g1 : G), fc ρ1 g = some (b, g1) ∧ (b = true → ∃ (y : β) (g2 : G), fe ρ1 g1 = some ([f y], g2) ∧ Q y)) → ∃ (ys : List β) (g1 : G), lcLoop fc fe bind ρ (xs.map enc) g = some (ys.map f, g1) ∧ (∀ y ∈ ys, Q y) ∧ ys.length ≤ xs.length
  | [], g, _ => ⟨[], g, rfl, fun _ h => (List.not_mem_nil h).elim, Nat.le_refl _⟩
  | x :: xs, g, h => by
    obtain ⟨ρ1, h1, b, g1, h2, h3⟩ := h x List.mem_cons_self g
    rw [List.map_cons]
    simp only [lcLoop, h1, h2, Option.bind_eq_bind, Option.bind_some]
    cases b with
    | true =>
      obtain ⟨y, g2, h4, h5⟩ := h3 rfl
      obtain ⟨ys, g3, h6, h7, h8⟩ := lc_gen enc f Q xs g2 fun z hz => h z (List.mem_cons_of_mem _ hz)
      refine ⟨y :: ys, g3, ?_, fun z hz => ?_, by simp only [List.length_cons]; omega⟩
      · simp only [if_true, h4, h6, Option.bind_some, List.map_cons, List.singleton_append]
      · rcases List.mem_cons.mp hz with rfl | hz
        · exact h5
        · exact h7 z hz
    | false =>
      obtain ⟨ys, g3, h6, h7, h8⟩ := lc_gen enc f Q xs g1 fun z hz => h z (List.mem_cons_of_mem _ hz)
      refine ⟨ys, g3, ?_, h7, by simp only [List.length_cons]; omega⟩
      simp only [Bool.false_eq_true, if_false, h6]
theorem lc_genn {α β : Type} (enc : α → D) (f : β → D) (Q : β → Prop) {fc : Env → G → Option (Bool × G)} {fe : Env → G → Option (List D × G)} {bind : D → Env → Option Env} {ρ : Env} : ∀ (xs : List α) (g : G),
    (∀ x ∈ xs, ∀ g, ∃ ρ1, bind (enc x) ρ = some ρ1 ∧ ∃ (g1 : G), fc ρ1 g = some (true, g1) ∧ ∃ (y : β) (g2 : G), fe ρ1 g1 = some ([f y], g2) ∧ Q y) → ∃ (ys : List β) (g1 : G), lcLoop fc fe bind ρ (xs.map enc) g = some (ys.map f, g1) ∧ (∀ y ∈ ys, Q y) ∧ ys.length = xs.length
  | [], g, _ => ⟨[], g, rfl, fun _ h => (List.not_mem_nil h).elim, rfl⟩
  | x :: xs, g, h => by
    obtain ⟨ρ1, h1, g1, h2, y, g2, h4, h5⟩ := h x List.mem_cons_self g
    obtain ⟨ys, g3, h6, h7, h8⟩ := lc_genn enc f Q xs g2 fun z hz => h z (List.mem_cons_of_mem _ hz)
    refine ⟨y :: ys, g3, ?_, fun z hz => ?_, by simp only [List.length_cons]; omega⟩
    · rw [List.map_cons]
      simp only [lcLoop, h1, h2, Option.bind_eq_bind, Option.bind_some, if_true, h4, h6, List.map_cons, List.singleton_append]
    · rcases List.mem_cons.mp hz with rfl | hz
      · exact h5
      · exact h7 z hz
theorem ev_lcg {α β : Type} (enc : α → D) (f : β → D) (Q : β → Prop) {c : Cf} {tg : Tg} {it t el : E} {ρ : Env} {g g1 : G} {vi : Vl} {xs : List α} {L : Option (Vl × G)} (hL : ev c (.lc tg it t el) ρ g = L) (hi : ev c it ρ g = some (vi, g1)) (hx : vi.rd.bind itD = some (xs.map enc))
    (h : ∀ x ∈ xs, ∀ g, ∃ ρ1, bindTg tg (enc x) (wipeE ρ tg.slots) = some ρ1 ∧ ∃ (b : Bool) (g1 : G), evT c t ρ1 g = some (b, g1) ∧ (b = true → ∃ (v : Vl) (y : β) (g2 : G), ev c el ρ1 g1 = some (v, g2) ∧ v.share = some (f y) ∧ Q y)) : ∃ (ys : List β) (g2 : G), L = some (.ow (ys.map f), g2) ∧ (∀ y ∈ ys, Q y) ∧ ys.length ≤ xs.length := by
  subst hL
  simp only [ev, hi, Option.bind_eq_bind, Option.bind_some, hx]
  obtain ⟨ys, g2, h1, h2, h3⟩ := lc_gen (bind := bindTg tg) (ρ := wipeE ρ tg.slots) (fc := fun ρ g => (ev c t ρ g).bind fun q => (truth q.1).bind fun t => some (t, q.2)) (fe := fun ρ g => (ev c el ρ g).bind fun q => q.1.share.bind fun d => some ([d], q.2)) enc f Q xs g1 (by
    intro x hx g
    obtain ⟨ρ1, h1, b, g2, h2, h3⟩ := h x hx g
    refine ⟨ρ1, h1, b, g2, h2, fun hb => ?_⟩
    obtain ⟨v, y, g3, h4, h5, h6⟩ := h3 hb
    exact ⟨y, g3, by simp only [h4, h5, Option.bind_some], h6⟩)
  exact ⟨ys, g2, by rw [h1]; rfl, h2, h3⟩
theorem ev_lcn {α β : Type} (enc : α → D) (f : β → D) (Q : β → Prop) {c : Cf} {tg : Tg} {it el : E} {ρ : Env} {g g1 : G} {vi : Vl} {xs : List α} {L : Option (Vl × G)} (hL : ev c (.lc tg it (.bl true) el) ρ g = L) (hi : ev c it ρ g = some (vi, g1)) (hx : vi.rd.bind itD = some (xs.map enc))
    (h : ∀ x ∈ xs, ∀ g, ∃ ρ1, bindTg tg (enc x) (wipeE ρ tg.slots) = some ρ1 ∧ ∃ (v : Vl) (y : β) (g2 : G), ev c el ρ1 g = some (v, g2) ∧ v.share = some (f y) ∧ Q y) : ∃ (ys : List β) (g2 : G), L = some (.ow (ys.map f), g2) ∧ (∀ y ∈ ys, Q y) ∧ ys.length = xs.length := by
  subst hL
  simp only [ev, hi, Option.bind_eq_bind, Option.bind_some, hx]
  obtain ⟨ys, g2, h1, h2, h3⟩ := lc_genn (bind := bindTg tg) (ρ := wipeE ρ tg.slots) (fc := fun ρ g => (truth (.sh (.bool true))).bind fun t => some (t, g)) (fe := fun ρ g => (ev c el ρ g).bind fun q => q.1.share.bind fun d => some ([d], q.2)) enc f Q xs g1 (by
    intro x hx g
    obtain ⟨ρ1, h1, v, y, g3, h4, h5, h6⟩ := h x hx g
    exact ⟨ρ1, h1, g, rfl, y, g3, by simp only [h4, h5, Option.bind_some], h6⟩)
  exact ⟨ys, g2, by rw [h1]; rfl, h2, h3⟩
/-- a loop that may end the def -/
theorem fo_rt {α : Type} (enc : α → D) {body : Env → G → Option (Out × Env × G)} {bind : D → Env → Option Env} (inv : Env → Prop) (R : Vl → Prop) : ∀ {xs : List α} {ρ : Env} {g : G} {F : Option (Out × Env × G)}, forLoop body bind (xs.map enc) ρ g = F → inv ρ →
    (∀ x ρ g, inv ρ → ∃ ρ1, bind (enc x) ρ = some ρ1 ∧ ∃ ρ2 g2, (body ρ1 g = some (.nx, ρ2, g2) ∧ inv ρ2) ∨ ∃ v, body ρ1 g = some (.rt v, ρ2, g2) ∧ R v) → ∃ ρ1 g1, (F = some (.nx, ρ1, g1) ∧ inv ρ1) ∨ ∃ v, F = some (.rt v, ρ1, g1) ∧ R v
  | [], ρ, g, F, hF, hi, h => ⟨ρ, g, .inl ⟨hF.symm, hi⟩⟩
  | x :: xs, ρ, g, F, hF, hi, h => by
    obtain ⟨ρ1, h1, ρ2, g2, h2⟩ := h x ρ g hi
    rw [List.map_cons] at hF
    simp only [forLoop, h1, Option.bind_eq_bind, Option.bind_some] at hF
    rcases h2 with ⟨h2, h3⟩ | ⟨v, h2, h3⟩
    · simp only [h2, Option.bind_some] at hF
      exact fo_rt enc inv R hF h3 h
    · simp only [h2, Option.bind_some] at hF
      exact ⟨ρ2, g2, .inr ⟨v, hF.symm, h3⟩⟩
section
variable {W : World} {S T : State} {g : G} {n : Nat}
open K04 in
theorem c_take (n : Nat) (g : G) {m : Nat} (h1 : 1 ≤ m) (h2 : m ≤ 1000) : ∃ (i : Nat) (g1 : G), call prog cst (n + 1) "_law_take" true [.int m] g = some (.sh (.int i), g1) ∧ i < m := by
  obtain ⟨i, g1, h, hi⟩ := take_g g h1 h2
  refine ⟨i, g1, ?_, hi⟩
  rw [call, if_pos rfl]
  show (takeG g (m : Int)).map _ = _
  rw [h]
  rfl
theorem at_natL (xs : List D) (k : Nat) : ixD (.list xs) (.int (k : Nat)) = xs[k]? := at_nat xs k
open K04 in
theorem c_pick (n : Nat) (g : G) {xs : List D} (h1 : 1 ≤ xs.length) (h2 : xs.length ≤ 1000) : ∃ x ∈ xs, ∃ g1 : G, call prog cst (n + 2) "_law_pick" true [.list xs] g = some (.sh x, g1) := by
  obtain ⟨i, g1, hi, hlt⟩ := c_take n g h1 h2
  obtain ⟨x, hx⟩ := get_some hlt
  refine ⟨x, List.mem_of_getElem? hx, g1, ?_⟩
  rw [u_law_pick]
  simp_arith [F_law_pick, kCa_g0, hi, at_natL, hx]
open K04 in
theorem c_pickM {α : Type} (enc : α → D) (n : Nat) (g : G) {xs : List α} (h1 : 1 ≤ xs.length) (h2 : xs.length ≤ 1000) : ∃ x ∈ xs, ∃ g1 : G, call prog cst (n + 2) "_law_pick" true [.list (xs.map enc)] g = some (.sh (enc x), g1) := by
  obtain ⟨y, hy, g1, h⟩ := c_pick n g (xs := xs.map enc) (by rw [List.length_map]; exact h1) (by rw [List.length_map]; exact h2)
  obtain ⟨x, hx, rfl⟩ := List.mem_map.mp hy
  exact ⟨x, hx, g1, h⟩
theorem start_ok (w : WOk W) : SOk W (startS W) := by
  refine ⟨w.start, ?_, ?_, ?_, ?_, ?_, w.count⟩
  · exact List.length_map _
  · intro k p hp
    have hp : (W.things.map Thing.place)[k]? = some p := hp
    rw [List.getElem?_map] at hp
    cases ht : W.things[k]? with
    | none => rw [ht] at hp; cases hp
    | some t => rw [ht] at hp; cases hp; exact (w.places k t ht).1
  · intro k p hp hk
    have hp : (W.things.map Thing.place)[k]? = some p := hp
    rw [List.getElem?_map] at hp
    cases ht : W.things[k]? with
    | none => rw [ht] at hp; cases hp
    | some t =>
      rw [ht] at hp
      cases hp
      rw [kind_of ht] at hk
      exact (w.places k t ht).2 (by rcases hk with hk | hk; exact .inl (Option.some.inj hk); exact .inr (Option.some.inj hk))
  · show (W.doors.map Door.st ++ (boxL W).map (stAt W)).length = _
    rw [List.length_append, List.length_map, List.length_map]
    rfl
  · show ((lampL W).map (litAt W)).length = _
    rw [List.length_map]
    rfl
open K04 in
theorem c_met (w : WOk W) (g : G) : ∃ Sa g1, SOk W Sa ∧ call prog cst (n + 9) "_law_met" true [W.d] g = some (.sh (State.d Sa), g1) := by
  have e := w.toEndOk
  rw [u_law_met]
  obtain ⟨k, ga, hk, hlt⟩ := c_take (n + 7) g (m := 9) (by omega) (by omega)
  have hk : call prog cst (n + 8) "_law_take" true [.int 9] g = some (.sh (.int k), ga) := hk
  simp_arith [F_law_met, c_law_start e, kCa_g0, hk, kR1i (show k ≤ 16777216 by omega)]
  rw [kFo_eq share_ow itL]
  generalize hF : forLoop _ _ ((List.range k).map intD) _ ga = F
  obtain ⟨ρ1, g1, hr⟩ := fo_rt intD (fun ρ => ∃ Sa y3 y4, SOk W Sa ∧ ρ = [some .gen, some (.sh W.d), some (.sh (State.d Sa)), y3, y4, none]) (fun v => ∃ Sa, SOk W Sa ∧ v = .sh (State.d Sa)) hF ⟨startS W, none, none, start_ok w, rfl⟩ (by
    rintro x ρ g1 ⟨Sa, y3, y4, o, rfl⟩
    refine ⟨[some .gen, some (.sh W.d), some (.sh (State.d Sa)), some (.sh (.int x)), y4, none], rfl, ?_⟩
    obtain ⟨L, hL, hLo, hLl⟩ := c_law_all (n := n + 6) (g := g1) w
    simp_arith []
    generalize hlc : ev _ (.lc _ _ _ _) _ g1 = R
    obtain ⟨row, g2, rfl, hrow, hrl⟩ := ev_lcg (α := Act) Act.d Act.d (fun a => ActOk W a ∧ ∀ t, a = .go t → ((exitsL W Sa.room).filter fun x => decide (x.told = t)) ≠ []) hlc (xs := L) (vi := .ow (L.map Act.d)) (g1 := g1) (by simp_arith [hL]) rfl (by
      intro a ha g2
      have hao := hLo a ha
      refine ⟨[some .gen, some (.sh W.d), some (.sh (State.d Sa)), some (.sh (.int x)), y4, some (.sh a.d)], rfl, ?_⟩
      by_cases hgo : ∃ t, a = .go t
      · obtain ⟨t, rfl⟩ := hgo
        obtain ⟨z, hz, hz2⟩ := ref_go (n := n) (g := g2) w o (t := t)
        simp_arith [hz]
        refine ⟨_, _, rfl, fun hb => ⟨_, .go t, _, rfl, rfl, hao, ?_⟩⟩
        intro t2 ht2
        cases ht2
        exact hz2 (of_decide_eq_true hb)
      · obtain ⟨z, hz⟩ := ref_str (n := n) (g := g2) w o hao fun t ht => hgo ⟨t, ht⟩
        simp_arith [hz]
        exact ⟨_, _, rfl, fun hb => ⟨_, a, _, rfl, rfl, hao, fun t ht => absurd ⟨t, ht⟩ hgo⟩⟩)
    simp_arith [kLi_eq, eqD_lnil']
    cases row with
    | nil =>
      simp_arith [List.map_nil, List.isEmpty_nil]
      exact ⟨_, _, .inr ⟨_, rfl, Sa, o, rfl⟩⟩
    | cons a row =>
      simp_arith [List.map_cons, List.isEmpty_cons]
      rw [← List.map_cons]
      obtain ⟨b, hb, g3, hp⟩ := c_pickM Act.d (n + 6) g2 (xs := a :: row) (by simp) (by omega)
      have hp : call prog cst (n + 8) "_law_pick" true [.list ((a :: row).map Act.d)] g2 = some (.sh b.d, g3) := hp
      obtain ⟨Sb, said, hd, o2⟩ := c_done (n := n + 1) (g := g3) w o (hrow b hb).1 (hrow b hb).2
      have hd : call prog cst (n + 8) "_law_done" false [W.d, Sa.d, b.d] g3 = _ := hd
      simp_arith [kCa_g0, hp, hd]
      exact ⟨_, _, .inl ⟨rfl, Sb, _, _, o2, rfl⟩⟩)
  rcases hr with ⟨rfl, Sa, y3, y4, o, rfl⟩ | ⟨v, rfl, Sa, o, rfl⟩
  · simp_arith []
    exact ⟨Sa, g1, o, rfl⟩
  · simp_arith []
    exact ⟨Sa, g1, o, rfl⟩
end
end Pu.Tw
set_option Elab.async false
set_option maxRecDepth 100000
set_option maxHeartbeats 8000000
set_option linter.all false
/-! M22: ways drawn. -/
namespace Pu.Tw
open PySem L2 Pu.St
local macro_rules | `(tactic| simp_arith [$ls,*] $[$loc]?) => `(tactic| simp only [ev_nil, ev_cons, kC1_eq, kC0_eq, kC2_eq, ev_nm, nmV_eq, ev_int, ev_str, ev_bl, ev_non, ev_gl, ev_tu, ev_li, kLi_eq, kB1_eq, kB0_eq, kB2_eq, ev_bi, ev_cm, fBi_eq, fCm_eq, ev_ch, fCh_eq, kCh_t, kCh_f, ev_neg, kNeg_eq, ev_an, ev_or, kAn_t, kAn_f, kOr_t, kOr_f, ev_no, kNo_eq, evT_eq, kT_eq, kT_ow, ev_ie, kIe_t, kIe_f, ev_ix, kIx_eq, kIx2_sh, kIx2_bw, kIx2_ow, kIx2_od, kIx2_bd, ev_sl, kSl_eq, kSl0_eq, kSl1_eq, kSl2_eq, pO_nil, pO_int, pO_nm, pO_bi, pO_ix, pO_bf, kPO_eq, ev_ca, kCa_n, evR_nil, evR_cons, kR1_eq, kR0_eq, ev_bf, kBf_eq, ev_me, kMe_eq, kMe2_eq, ev_isi, kIsi_sh, ev_r1, ev_l1, ev_r2, kR2r_eq, ex_nop, ex_seq, kS_nx, kS_rt, kS_br, kS_ct, ex_as, kAs_sh, kAs_ow, kAs_od, ex_par, evP_nil, evP_cons, kP1_eq, kP0_eq, ex_up, ex_if, kIf_t, kIf_f, ex_re, kRe_sh, kRe_ow, kRe_bw, ex_ap, ex_ex, ex_fz, fzV_ow, fzV_sh, kAp_sh, kAp_ow, apV_ow, kEx_ow, kEx_bw, exV_ow, ex_fo, ex_rn, share_sh, share_ow, rd_sh, rd_ow, rd_bw, bo_sh, bo_ow, bo_od, keep_sh, keep_ow, lst_ow, lst_bw, kF_rt, kF_nx, List.getElem?_cons_zero, List.getElem?_cons_succ, Option.bind_some, Option.map_some, List.set_cons_zero, List.set_cons_succ, String.reduceEq, decide_false, decide_true, Bool.not_true, Bool.not_false, cm_eq, cm_ne, cm_in, cm_nin, cm_is, cm_isn, eqD_str, eqD_str', eqD_int, eqD_int', eqv_str, eqv_int, ofString_inj, in_tup, in_lst, ix_0, ix_1, ix_2, ix_map, ix_mapL, W1, W2, W3, W4, W5, W6, W7, W8, W9, W10, W11, W12, S0, S1, S2, S3, S4, S5, S6, T2, T3, T4, D1, D3, D4, D5, len_tup, len_lst, bi_add, Kind.eq_box, Kind.eq_lamp, Kind.eq_thing, Kind.eq_fixed, LS.eq, LS.eq_open, LS.eq_closed, LS.eq_locked, lit_eq, on_eq, wipeE, Tg.slots, bindTg, Place.eqD, Place.eqv, Lock.eqv, List.any_cons, List.any_nil, z0, z1, cm_lt, cm_le, cm_gt, cm_ge, bi_sub, Int.natCast_inj, $ls,*] $[$loc]?)

theorem sub_len {α : Type} [DecidableEq α] : ∀ (xs ys : List α), xs.Nodup → (∀ x ∈ xs, x ∈ ys) → xs.length ≤ ys.length
  | [], _, _, _ => Nat.zero_le _
  | x :: xs, ys, hn, h => by
    have hx := h x List.mem_cons_self
    have hn := List.nodup_cons.mp hn
    have ih := sub_len xs (ys.erase x) hn.2 fun z hz => (List.mem_erase_of_ne (by rintro rfl; exact hn.1 hz)).mpr (h z (List.mem_cons_of_mem _ hz))
    rw [List.length_erase_of_mem hx] at ih
    have := List.length_pos_of_mem hx
    simp only [List.length_cons]
    omega
section
variable {W : World} {S T : State} {g : G} {n : Nat}
open K04 in
theorem c_back {x : Str} (h : x ∈ dirs) : call prog cst (n + 1) "_law_back" false [.str x] g = some (.sh (.str (backOf x)), g) := by
  simp only [dirs, List.mem_cons, List.not_mem_nil, or_false] at h
  rcases h with rfl | rfl | rfl | rfl | rfl | rfl | rfl | rfl <;> kernel_rfl
theorem filt_len {x : Str} : ∀ {xs : List Str}, xs.Nodup → x ∈ xs → (xs.filter fun y => !decide (y = x)).length + 1 = xs.length
  | [], _, h => (List.not_mem_nil h).elim
  | z :: zs, hn, h => by
    have hn := List.nodup_cons.mp hn
    by_cases e : z = x
    · subst e
      rw [List.filter_cons_of_neg (by simp), List.length_cons, List.filter_eq_self.mpr]
      intro y hy
      simp only [Bool.not_eq_eq_eq_not, Bool.not_true, decide_eq_false_iff_not]
      exact fun e => hn.1 (e ▸ hy)
    · rw [List.filter_cons_of_pos (by simp [e]), List.length_cons, List.length_cons]
      rcases List.mem_cons.mp h with h | h
      · exact absurd h.symm e
      · rw [filt_len hn.2 h]
theorem minNat (a b : Nat) : bfD .min [.int a, .int b] = some (.sh (.int ((min a b : Nat) : Int))) := by
  show some (Vl.sh (.int (if (b : Int) < a then (b : Int) else a))) = _
  congr 3
  split <;> omega
open K04 in
theorem c_some (g : G) {xs : List Str} {k : Nat} (hn : xs.Nodup) (hl : xs.length ≤ 10) : ∃ (ys : List Str) (g1 : G), call prog cst (n + 3) "_law_some" true [.list (xs.map .str), .int k] g = some (.ow (ys.map .str), g1) ∧ ys.length ≤ 10 := by
  rw [u_law_some]
  simp_arith [F_law_some, list_lst, kLi_eq, kPa_eq, setAll, List.length_cons, List.length_nil, List.length_map, minNat, kR1i (show min k xs.length ≤ 16777216 by omega)]
  rw [kFo_eq share_ow itL]
  obtain ⟨ρ1, g1, hf, left, found, y3, y6, rfl, h1, h2, h3⟩ := fo_inv_e intD (ys := List.range (min k xs.length)) (g := g) (ρ := [some .gen, some (.sh (.list (xs.map .str))), some (.sh (.int k)), none, some (.sh (.list (xs.map .str))), some (.ow []), none, none]) (bind := bindTg (.nm 3)) (body := ex ⟨call prog cst (n + 2), cst⟩ (.seq (.as_ 6 (.ca "_law_pick" (some 0) (.cons (.nm 4) .nil))) (.seq (.fz 6) (.seq (.as_ 4 (.lc (.nm 7) (.nm 4) (.cm .ne (.nm 7) (.nm 6)) (.nm 7))) (.seq (.fz 4) (.seq (.ap 5 (.nm 6)) .nop))))))
    (fun zs ρ g => ∃ (left found : List Str) (y3 y6 : Option Vl), ρ = [some .gen, some (.sh (.list (xs.map .str))), some (.sh (.int k)), y3, some (.sh (.list (left.map .str))), some (.ow (found.map .str)), y6, none] ∧ left.Nodup ∧ left.length + zs.length = xs.length ∧ found.length = zs.length) ⟨xs, [], none, none, rfl, hn, rfl, rfl⟩ (by
      rintro zs x ρ g1 hx hpre ⟨left, found, y3, y6, rfl, h1, h2, h3⟩
      have hzl := hpre.length_le
      rw [List.length_append, List.length_singleton, List.length_range] at hzl
      refine ⟨[some .gen, some (.sh (.list (xs.map .str))), some (.sh (.int k)), some (.sh (.int x)), some (.sh (.list (left.map .str))), some (.ow (found.map .str)), y6, none], rfl, ?_⟩
      obtain ⟨one, hone, g2, hp⟩ := c_pickM PyData.str n g1 (xs := left) (by omega) (by omega)
      simp_arith [kCa_g0, hp]
      rw [ev_lc (α := Str) PyData.str (fun y => !decide (y = one)) PyData.str (xs := left) (vi := .sh (.list (left.map .str))) ?_ rfl ?_]
      rotate_left 1
      · simp_arith []
      · intro y _
        refine ⟨_, rfl, ?_, fun _ => ⟨_, rfl, rfl⟩⟩
        simp_arith []
      simp_arith [List.length_map]
      rw [if_pos (by rw [sizeLine_eq]; omega)]
      refine ⟨_, _, rfl, left.filter fun y => !decide (y = one), found ++ [one], some (.sh (.int x)), some (.sh (.str one)), by rw [List.map_append]; rfl, h1.filter _, ?_, by rw [List.length_append, List.length_append, h3]; rfl⟩
      have := filt_len h1 hone
      rw [List.length_append, List.length_singleton]
      omega)
  rw [hf]
  simp_arith []
  refine ⟨found, g1, rfl, ?_⟩
  rw [h3, List.length_range]
  omega
end
end Pu.Tw
set_option Elab.async false
set_option maxRecDepth 100000
set_option maxHeartbeats 8000000
set_option linter.all false
/-! M23: ways drawn. -/
namespace Pu.Tw
open PySem L2 Pu.St
local macro_rules | `(tactic| simp_arith [$ls,*] $[$loc]?) => `(tactic| simp only [ev_nil, ev_cons, kC1_eq, kC0_eq, kC2_eq, ev_nm, nmV_eq, ev_int, ev_str, ev_bl, ev_non, ev_gl, ev_tu, ev_li, kLi_eq, kB1_eq, kB0_eq, kB2_eq, ev_bi, ev_cm, fBi_eq, fCm_eq, ev_ch, fCh_eq, kCh_t, kCh_f, ev_neg, kNeg_eq, ev_an, ev_or, kAn_t, kAn_f, kOr_t, kOr_f, ev_no, kNo_eq, evT_eq, kT_eq, kT_ow, ev_ie, kIe_t, kIe_f, ev_ix, kIx_eq, kIx2_sh, kIx2_bw, kIx2_ow, kIx2_od, kIx2_bd, ev_sl, kSl_eq, kSl0_eq, kSl1_eq, kSl2_eq, pO_nil, pO_int, pO_nm, pO_bi, pO_ix, pO_bf, kPO_eq, ev_ca, kCa_n, evR_nil, evR_cons, kR1_eq, kR0_eq, ev_bf, kBf_eq, ev_me, kMe_eq, kMe2_eq, ev_isi, kIsi_sh, ev_r1, ev_l1, ev_r2, kR2r_eq, ex_nop, ex_seq, kS_nx, kS_rt, kS_br, kS_ct, ex_as, kAs_sh, kAs_ow, kAs_od, ex_par, evP_nil, evP_cons, kP1_eq, kP0_eq, ex_up, ex_if, kIf_t, kIf_f, ex_re, kRe_sh, kRe_ow, kRe_bw, ex_ap, ex_ex, ex_fz, fzV_ow, fzV_sh, kAp_sh, kAp_ow, apV_ow, kEx_ow, kEx_bw, exV_ow, ex_fo, ex_rn, share_sh, share_ow, rd_sh, rd_ow, rd_bw, bo_sh, bo_ow, bo_od, keep_sh, keep_ow, lst_ow, lst_bw, kF_rt, kF_nx, List.getElem?_cons_zero, List.getElem?_cons_succ, Option.bind_some, Option.map_some, List.set_cons_zero, List.set_cons_succ, String.reduceEq, decide_false, decide_true, Bool.not_true, Bool.not_false, cm_eq, cm_ne, cm_in, cm_nin, cm_is, cm_isn, eqD_str, eqD_str', eqD_int, eqD_int', eqv_str, eqv_int, ofString_inj, in_tup, in_lst, ix_0, ix_1, ix_2, ix_map, ix_mapL, W1, W2, W3, W4, W5, W6, W7, W8, W9, W10, W11, W12, S0, S1, S2, S3, S4, S5, S6, T2, T3, T4, D1, D3, D4, D5, len_tup, len_lst, bi_add, Kind.eq_box, Kind.eq_lamp, Kind.eq_thing, Kind.eq_fixed, LS.eq, LS.eq_open, LS.eq_closed, LS.eq_locked, lit_eq, on_eq, wipeE, Tg.slots, bindTg, Place.eqD, Place.eqv, Lock.eqv, List.any_cons, List.any_nil, z0, z1, cm_lt, cm_le, cm_gt, cm_ge, bi_sub, Int.natCast_inj, $ls,*] $[$loc]?)

def sucD (k : Nat) : D := .int ((k + 1 : Nat) : Int)
def usedD (p : Nat × Str) : D := .tuple [.int p.1, .str p.2]
theorem pair_eqv (p q : Nat × Str) : PyData.eqv (usedD p) (usedD q) = decide (p = q) := by
  obtain ⟨a, x⟩ := p
  obtain ⟨b, y⟩ := q
  simp only [usedD, PyData.eqv, PyData.eqvAll]
  rw [Bool.eq_iff_iff]
  simp [Prod.ext_iff]
  intro _
  omega
theorem pair_any (p : Nat × Str) (ps : List (Nat × Str)) : ((ps.map usedD).any fun z => PyData.eqv z (usedD p)) = decide (p ∈ ps) := by
  induction ps with
  | nil => rfl
  | cons q ps ih =>
    rw [List.map_cons, List.any_cons, ih, pair_eqv]
    by_cases e : q = p
    · subst e
      simp
    · have e2 : ¬ p = q := fun h => e h.symm
      simp [e, e2]
theorem key_dl (x : D) (h : x.depth ≤ 10) {ys : List D} : inD x (.list ys) = some (ys.any fun z => PyData.eqv z x) := by
  cases x <;> (unfold inD; dsimp only; rw [if_pos (Or.inl (Nat.le_trans h (by decide)))])
theorem in_pair {p : Nat × Str} {ps : List (Nat × Str)} : inD (usedD p) (.list (ps.map usedD)) = some (decide (p ∈ ps)) := by
  rw [key_dl _ (by simp [usedD, PyData.depth, PyData.depthAll]), pair_any]
theorem rg_suc {m : Nat} (h1 : 1 ≤ m) (h2 : m ≤ 1000) {g : G} : kR2s (.sh (.int 1)) (.sh (.int m), g) = some (.ow ((List.range (m - 1)).map sucD), g) := by
  unfold kR2s rgD
  dsimp only
  rw [if_pos (by omega)]
  unfold rngD
  rw [show ((m : Int) - 1).toNat = m - 1 by omega]
  simp only [Option.bind_some]
  rw [show (fun (k : Nat) => PyData.int (1 + (k : Int))) = sucD from funext fun k => by unfold sucD; congr 1; omega]
def told8 : List Str := ["north", "east", "up", "in", "south", "west", "down", "out"]
theorem told8_nodup : told8.Nodup := by decide +kernel
theorem told8_dir {x : Str} (h : x ∈ told8) : x ∈ dirs := by
  simp only [told8, List.mem_cons, List.not_mem_nil, or_false] at h
  rcases h with rfl | rfl | rfl | rfl | rfl | rfl | rfl | rfl <;> decide +kernel
def LS.all : List LS := [.open_, .closed, .locked]
def gateP : List (List Str) := [["gate"], ["oak", "gate"], ["old", "oak", "gate"]]
def phD (ws : List Str) : D := .tuple (ws.map .str)
structure WaysOk (m : Nat) (ws : List (Nat × Str × Nat)) (ds : List Door) : Prop where
  ways : ∀ w ∈ ws, w.2.2 < m
  wl : ws.length ≤ 50
  d1 : ds.length ≤ 1
  door : ∀ x ∈ ds, x.told ∈ dirs ∧ x.one < m ∧ x.other < m
theorem fo_invF {α : Type} (enc : α → D) {body : Env → G → Option (Out × Env × G)} {bind : D → Env → Option Env} {ys : List α} {ρ : Env} {g : G} {F : Option (Out × Env × G)} (hF : forLoop body bind (ys.map enc) ρ g = F) (inv : List α → Env → G → Prop)
    (hi : inv [] ρ g) (h : ∀ zs x ρ g, x ∈ ys → zs ++ [x] <+: ys → inv zs ρ g → ∃ ρ1, bind (enc x) ρ = some ρ1 ∧ ∃ ρ2 g2, body ρ1 g = some (.nx, ρ2, g2) ∧ inv (zs ++ [x]) ρ2 g2) :
    ∃ ρ' g', F = some (.nx, ρ', g') ∧ inv ys ρ' g' := by
  obtain ⟨ρ', g', h1, h2⟩ := fo_inv_e enc inv hi h
  exact ⟨ρ', g', hF.symm.trans h1, h2⟩
theorem range_pre {zs : List Nat} {x k : Nat} (h : zs ++ [x] <+: List.range k) : x = zs.length := by
  have h1 := List.prefix_iff_getElem?.mp h zs.length (by simp)
  rw [List.getElem_append_right (Nat.le_refl _)] at h1
  simp only [Nat.sub_self, List.getElem_cons_zero] at h1
  rw [List.getElem?_range] at h1
  · exact (Option.some.inj h1).symm
  · have := h.length_le
    rw [List.length_append, List.length_singleton, List.length_range] at this
    omega
section
variable {W : World} {S T : State} {g : G} {n : Nat}
open K04 in
theorem c_ways (g : G) {m : Nat} (h1 : 2 ≤ m) (h2 : m ≤ 4) : ∃ (ways : List (Nat × Str × Nat)) (doors : List Door) (g1 : G), call prog cst (n + 3) "_law_ways" true [.int m] g = some (.sh (.tuple [.list (ways.map wayD), .list (doors.map Door.d)]), g1) ∧ WaysOk m ways doors := by
  rw [u_law_ways]
  simp_arith [F_law_ways, kLi_eq, kPa_eq, setAll, List.length_cons, List.length_nil, rg_suc (show 1 ≤ m by omega) (show m ≤ 1000 by omega)]
  rw [kFo_eq share_ow itL]
  simp only [Option.bind_assoc]
  generalize hF : forLoop _ _ ((List.range (m - 1)).map sucD) _ g = F
  obtain ⟨ρ1, g1, rfl, ways, doors, used, y2, y6, y7, y8, y9, rfl, ⟨hw1, hw2, hw3⟩, hw4, -, -⟩ := fo_invF sucD hF
      (fun zs ρ g => ∃ (ways : List (Nat × Str × Nat)) (doors : List Door) (used : List (Nat × Str)) (y2 y6 y7 y8 y9 : Option Vl), ρ = [some .gen, some (.sh (.int m)), y2, some (.sh (.list (ways.map wayD))), some (.ow (doors.map Door.d)), some (.sh (.list (used.map usedD))), y6, y7, y8, y9] ∧
        ((∀ w ∈ ways, w.2.2 < m) ∧ doors.length ≤ 1 ∧ ∀ x ∈ doors, x.told ∈ dirs ∧ x.one < m ∧ x.other < m) ∧ ways.length ≤ 2 * zs.length ∧ used.length ≤ 2 * zs.length ∧ ∀ u ∈ used, u.1 ≤ zs.length)
      ⟨[], [], [], none, none, none, none, none, rfl, ⟨fun _ h => (List.not_mem_nil h).elim, Nat.zero_le _, fun _ h => (List.not_mem_nil h).elim⟩, Nat.zero_le _, Nat.zero_le _, fun _ h => (List.not_mem_nil h).elim⟩ (by
    rintro zs x ρ g1 hx hpre ⟨ways, doors, used, y2, y6, y7, y8, y9, rfl, ⟨hw1, hw2, hw3⟩, hw4, hu1, hu2⟩
    have hzl := hpre.length_le
    rw [List.length_append, List.length_singleton, List.length_range] at hzl
    have hxz := range_pre hpre
    obtain ⟨one, g2, ht1, hone⟩ := c_take (n + 1) g1 (m := x + 1) (by omega) (by omega)
    have ht1 : call prog cst (n + 2) "_law_take" true [.int ((x + 1 : Nat) : Int)] g1 = some (.sh (.int one), g2) := ht1
    obtain ⟨kind, g3, ht2, hkind⟩ := c_take (n + 1) g2 (m := 4) (by omega) (by omega)
    have ht2 : call prog cst (n + 2) "_law_take" true [.int 4] g2 = some (.sh (.int kind), g3) := ht2
    refine ⟨[some .gen, some (.sh (.int m)), some (.sh (.int ((x + 1 : Nat) : Int))), some (.sh (.list (ways.map wayD))), some (.ow (doors.map Door.d)), some (.sh (.list (used.map usedD))), y6, y7, y8, y9], rfl, ?_⟩
    simp_arith [kCa_g0, ht1, ht2, kPa_eq, setAll, List.length_cons, List.length_nil]
    rw [ev_lc (α := Str) PyData.str (fun y => !decide ((one, y) ∈ used) && !decide ((x + 1, backOf y) ∈ used)) PyData.str (xs := told8) (vi := .sh (.tuple (told8.map .str))) ?_ rfl ?_]
    rotate_left 1
    · simp_arith []; rfl
    · intro y hy
      refine ⟨_, rfl, ?_, fun _ => ⟨_, rfl, rfl⟩⟩
      have u1 : PyData.tuple [.int one, .str y] = usedD (one, y) := rfl
      have u2 : PyData.tuple [.int ((x + 1 : Nat) : Int), .str (backOf y)] = usedD (x + 1, backOf y) := rfl
      simp_arith [u1, in_pair]
      cases decide ((one, y) ∈ used) <;> simp_arith [c_back (told8_dir hy), u2, in_pair, Bool.true_and, Bool.false_and]
    have hne : (told8.filter fun y => !decide ((one, y) ∈ used) && !decide ((x + 1, backOf y) ∈ used)) ≠ [] := by
      intro h0
      have hsub : ∀ p ∈ told8.map fun y => (one, y), p ∈ used := by
        intro p hp
        obtain ⟨y, hy, rfl⟩ := List.mem_map.mp hp
        have h3 := List.filter_eq_nil_iff.mp h0 y hy
        by_cases h4 : (one, y) ∈ used
        · exact h4
        · by_cases h5 : (x + 1, backOf y) ∈ used
          · have := hu2 _ h5
            dsimp only at this
            omega
          · simp [h4, h5] at h3
      have hnd : (told8.map fun y => (one, y)).Nodup := by
        rw [List.nodup_iff_pairwise_ne, List.pairwise_map]
        exact List.Pairwise.imp (fun h e => h (Prod.mk.inj e).2) told8_nodup
      have := sub_len _ _ hnd hsub
      rw [List.length_map, show told8.length = 8 from rfl] at this
      omega
    generalize hfr : (told8.filter fun y => !decide ((one, y) ∈ used) && !decide ((x + 1, backOf y) ∈ used)) = fr at hne ⊢
    have hfr8 : fr.length ≤ 8 := by rw [← hfr]; exact List.length_filter_le _ _
    have hfrd : ∀ y ∈ fr, y ∈ dirs := by intro y hy; rw [← hfr] at hy; exact told8_dir (List.mem_filter.mp hy).1
    obtain ⟨told, htold, g4, ht3⟩ := c_pickM PyData.str n g3 (xs := fr) (List.length_pos_iff.mpr hne) (by omega)
    have hdir := hfrd told htold
    have u1 : PyData.tuple [.int one, .str told] = usedD (one, told) := rfl
    have u2 : PyData.tuple [.int ((x + 1 : Nat) : Int), .str (backOf told)] = usedD (x + 1, backOf told) := rfl
    have hul : (used.map usedD).length + [usedD (one, told), usedD (x + 1, backOf told)].length ≤ sizeLine := by rw [List.length_map, sizeLine_eq]; simp only [List.length_cons, List.length_nil]; omega
    simp_arith [kCa_g0, ht3, c_back hdir, kLi_eq, u1, u2, bi_addL hul]
    have hused : used.map usedD ++ [usedD (one, told), usedD (x + 1, backOf told)] = (used ++ [(one, told), (x + 1, backOf told)]).map usedD := by rw [List.map_append]; rfl
    rw [hused]
    have hu3 : (used ++ [(one, told), (x + 1, backOf told)]).length ≤ 2 * (zs ++ [x]).length := by
      rw [List.length_append, List.length_append]
      simp only [List.length_cons, List.length_nil]
      omega
    have hu4 : ∀ u ∈ used ++ [(one, told), (x + 1, backOf told)], u.1 ≤ (zs ++ [x]).length := by
      intro u hu
      rw [List.length_append, List.length_singleton]
      rcases List.mem_append.mp hu with hu | hu
      · have := hu2 u hu
        omega
      · simp only [List.mem_cons, List.not_mem_nil, or_false] at hu
        rcases hu with rfl | rfl
        · dsimp only; omega
        · dsimp only; omega
    generalize used ++ [(one, told), (x + 1, backOf told)] = used2 at hu3 hu4 ⊢
    rw [kAn_b (y := (doors.map Door.d).isEmpty) (by simp_arith [kLi_eq, eqD_lnil'])]
    simp_arith []
    cases hb : (decide ((kind : Int) = 0) && (doors.map Door.d).isEmpty) with
    | true =>
      rw [Bool.and_eq_true, List.isEmpty_iff] at hb
      have hd0 : doors = [] := by
        cases doors with
        | nil => rfl
        | cons _ _ => exact absurd hb.2 (by simp)
      subst hd0
      obtain ⟨ws, hws, g5, hp1⟩ := c_pickM phD n g4 (xs := gateP) (by decide +kernel) (by decide +kernel)
      have hp1 : call prog cst (n + 2) "_law_pick" true [.list [.tuple [.str "gate"], .tuple [.str "oak", .str "gate"], .tuple [.str "old", .str "oak", .str "gate"]]] g4 = some (.sh (phD ws), g5) := hp1
      obtain ⟨st, hst, g6, hp2⟩ := c_pickM lsD n g5 (xs := LS.all) (by decide +kernel) (by decide +kernel)
      have hp2 : call prog cst (n + 2) "_law_pick" true [.list [.str "open", .str "closed", .str "locked"]] g5 = some (.sh (lsD st), g6) := hp2
      simp_arith [kLi_eq, kCa_g0, hp1, hp2]
      rw [if_pos (by rw [sizeLine_eq, List.length_map]; exact Nat.zero_lt_succ _)]
      simp_arith []
      refine ⟨_, _, rfl, ways, [⟨"gate", ws, one, told, x + 1, st⟩], used2, _, _, _, _, _, rfl, ⟨hw1, by simp, ?_⟩, ?_, hu3, hu4⟩
      · intro y hy
        cases List.mem_singleton.mp hy
        exact ⟨hdir, by dsimp only; omega, by dsimp only; omega⟩
      · rw [List.length_append]
        omega
    | false =>
      have hwl : (ways.map wayD).length + [wayD (one, told, x + 1)].length ≤ sizeLine := by rw [List.length_map, sizeLine_eq]; simp only [List.length_cons, List.length_nil]; omega
      have u3 : PyData.tuple [.int one, .str told, .int ((x + 1 : Nat) : Int)] = wayD (one, told, x + 1) := rfl
      simp_arith [kLi_eq, u3, bi_addL hwl]
      cases hk3 : decide ((kind : Int) < 3) with
      | true =>
        have u4 : PyData.tuple [.int ((x + 1 : Nat) : Int), .str (backOf told), .int one] = wayD (x + 1, backOf told, one) := rfl
        simp_arith [kLi_eq, c_back hdir, u4]
        rw [bi_addL (by rw [List.length_append, List.length_map, sizeLine_eq]; simp only [List.length_cons, List.length_nil]; omega)]
        simp_arith []
        refine ⟨_, _, rfl, ways ++ [(one, told, x + 1)] ++ [(x + 1, backOf told, one)], doors, used2, _, _, _, _, _, by rw [List.map_append, List.map_append]; rfl, ⟨?_, hw2, hw3⟩, ?_, hu3, hu4⟩
        · intro y hy
          rcases List.mem_append.mp hy with hy | hy
          · rcases List.mem_append.mp hy with hy | hy
            · exact hw1 y hy
            · cases List.mem_singleton.mp hy
              dsimp only; omega
          · cases List.mem_singleton.mp hy
            dsimp only; omega
        · simp only [List.length_append, List.length_cons, List.length_nil]
          omega
      | false =>
        simp_arith [kLi_eq]
        rw [bi_addL (by rw [List.length_append, List.length_map, sizeLine_eq]; simp only [List.length_cons, List.length_nil]; omega)]
        simp_arith []
        refine ⟨_, _, rfl, ways ++ [(one, told, x + 1)], doors, used2, _, _, _, _, _, by rw [List.map_append, List.append_nil]; rfl, ⟨?_, hw2, hw3⟩, ?_, hu3, hu4⟩
        · intro y hy
          rcases List.mem_append.mp hy with hy | hy
          · exact hw1 y hy
          · cases List.mem_singleton.mp hy
            dsimp only; omega
        · simp only [List.length_append, List.length_cons, List.length_nil]
          omega)
  simp_arith []
  exact ⟨ways, doors, g1, rfl, hw1, by rw [List.length_range] at hw4; omega, hw2, hw3⟩
end
end Pu.Tw
set_option Elab.async false
set_option maxRecDepth 100000
set_option maxHeartbeats 8000000
set_option linter.all false
/-! M24: things drawn. -/
namespace Pu.Tw
open PySem L2 Pu.St
local macro_rules | `(tactic| simp_arith [$ls,*] $[$loc]?) => `(tactic| simp only [ev_nil, ev_cons, kC1_eq, kC0_eq, kC2_eq, ev_nm, nmV_eq, ev_int, ev_str, ev_bl, ev_non, ev_gl, ev_tu, ev_li, kLi_eq, kB1_eq, kB0_eq, kB2_eq, ev_bi, ev_cm, fBi_eq, fCm_eq, ev_ch, fCh_eq, kCh_t, kCh_f, ev_neg, kNeg_eq, ev_an, ev_or, kAn_t, kAn_f, kOr_t, kOr_f, ev_no, kNo_eq, evT_eq, kT_eq, kT_ow, ev_ie, kIe_t, kIe_f, ev_ix, kIx_eq, kIx2_sh, kIx2_bw, kIx2_ow, kIx2_od, kIx2_bd, ev_sl, kSl_eq, kSl0_eq, kSl1_eq, kSl2_eq, pO_nil, pO_int, pO_nm, pO_bi, pO_ix, pO_bf, kPO_eq, ev_ca, kCa_n, evR_nil, evR_cons, kR1_eq, kR0_eq, ev_bf, kBf_eq, ev_me, kMe_eq, kMe2_eq, ev_isi, kIsi_sh, ev_r1, ev_l1, ev_r2, kR2r_eq, ex_nop, ex_seq, kS_nx, kS_rt, kS_br, kS_ct, ex_as, kAs_sh, kAs_ow, kAs_od, ex_par, evP_nil, evP_cons, kP1_eq, kP0_eq, ex_up, ex_if, kIf_t, kIf_f, ex_re, kRe_sh, kRe_ow, kRe_bw, ex_ap, ex_ex, ex_fz, fzV_ow, fzV_sh, kAp_sh, kAp_ow, apV_ow, kEx_ow, kEx_bw, exV_ow, ex_fo, ex_rn, share_sh, share_ow, rd_sh, rd_ow, rd_bw, bo_sh, bo_ow, bo_od, keep_sh, keep_ow, lst_ow, lst_bw, kF_rt, kF_nx, List.getElem?_cons_zero, List.getElem?_cons_succ, Option.bind_some, Option.map_some, List.set_cons_zero, List.set_cons_succ, String.reduceEq, decide_false, decide_true, Bool.not_true, Bool.not_false, cm_eq, cm_ne, cm_in, cm_nin, cm_is, cm_isn, eqD_str, eqD_str', eqD_int, eqD_int', eqv_str, eqv_int, ofString_inj, in_tup, in_lst, ix_0, ix_1, ix_2, ix_map, ix_mapL, W1, W2, W3, W4, W5, W6, W7, W8, W9, W10, W11, W12, S0, S1, S2, S3, S4, S5, S6, T2, T3, T4, D1, D3, D4, D5, len_tup, len_lst, bi_add, Kind.eq_box, Kind.eq_lamp, Kind.eq_thing, Kind.eq_fixed, LS.eq, LS.eq_open, LS.eq_closed, LS.eq_locked, lit_eq, on_eq, wipeE, Tg.slots, bindTg, Place.eqD, Place.eqv, Lock.eqv, List.any_cons, List.any_nil, z0, z1, cm_lt, cm_le, cm_gt, cm_ge, bi_sub, Int.natCast_inj, $ls,*] $[$loc]?)

def chestP : List (List Str) := [["chest"], ["red", "chest"]]
def thingP : List (List Str) := [["pin"], ["red", "pin"], ["old", "red", "pin"], ["orb"], ["old", "orb"]]
def thingsIf : Pu.S := (.if_ (.cm .eq (.ca "_law_take" (some 0) (.cons (.int 2) .nil)) (.int 0)) (.seq (.ap 3 (.tu (.cons (.str "chest") (.cons (.ca "_law_pick" (some 0) (.cons (.li (.cons (.tu (.cons (.str "chest") .nil)) (.cons (.tu (.cons (.str "red") (.cons (.str "chest") .nil))) .nil))) .nil)) (.cons (.str "box") (.cons (.tu (.cons (.str "room") (.cons (.ca "_law_take" (some 0) (.cons (.nm 1) .nil)) .nil))) (.cons (.tu (.cons (.bi .add (.int 1) (.ca "_law_take" (some 0) (.cons (.int 2) .nil))) (.cons (.ca "_law_pick" (some 0) (.cons (.li (.cons (.str "open") (.cons (.str "closed") (.cons (.str "locked") .nil)))) .nil)) .nil))) .nil))))))) .nop) .nop)
def thingsTl : Pu.S := (.seq (.as_ 4 (.bi .add (.bi .add (.lc (.nm 5) (.r1 (.nm 1)) (.bl true) (.tu (.cons (.str "room") (.cons (.nm 5) .nil)))) (.li (.cons (.tu (.cons (.str "held") .nil)) .nil))) (.ie (.cm .ne (.nm 3) (.li .nil)) (.li (.cons (.tu (.cons (.str "box") (.cons (.int 0) .nil))) .nil)) (.li .nil)))) (.seq (.fz 4) (.seq (.par [6, 7] (.cons (.li (.cons (.str "pin") (.cons (.str "orb") (.cons (.str "cup") .nil)))) (.cons (.li (.cons (.tu (.cons (.str "pin") .nil)) (.cons (.tu (.cons (.str "red") (.cons (.str "pin") .nil))) (.cons (.tu (.cons (.str "old") (.cons (.str "red") (.cons (.str "pin") .nil)))) (.cons (.tu (.cons (.str "orb") .nil)) (.cons (.tu (.cons (.str "old") (.cons (.str "orb") .nil))) .nil)))))) .nil))) (.seq (.fz 6) (.seq (.fz 7) (.seq (.fo (.nm 5) (.r1 (.nm 2)) (.seq (.as_ 8 (.ie (.cm .eq (.ca "_law_take" (some 0) (.cons (.int 4) .nil)) (.int 0)) (.str "lamp") (.ie (.cm .eq (.ca "_law_take" (some 0) (.cons (.int 6) .nil)) (.int 0)) (.str "fixed") (.str "thing")))) (.seq (.as_ 9 (.ie (.cm .ne (.nm 8) (.str "fixed")) (.ca "_law_pick" (some 0) (.cons (.nm 4) .nil)) (.tu (.cons (.str "room") (.cons (.ca "_law_take" (some 0) (.cons (.nm 1) .nil)) .nil))))) (.seq (.fz 9) (.seq (.ap 3 (.tu (.cons (.ix (.nm 6) (.nm 5)) (.cons (.ca "_law_pick" (some 0) (.cons (.nm 7) .nil)) (.cons (.nm 8) (.cons (.nm 9) (.cons (.ie (.cm .eq (.nm 8) (.str "lamp")) (.ca "_law_pick" (some 0) (.cons (.li (.cons (.str "lit") (.cons (.str "out") .nil))) .nil)) .non) .nil))))))) .nop))))) (.seq (.re (.nm 3)) .nop)))))))
def ChOk (m : Nat) (ch : List Thing) : Prop := ch = [] ∨ ∃ t, ch = [t] ∧ t.kind = .box ∧ ∃ r, t.place = .room r ∧ r < m
/-- a thing that was drawn, among m rooms, with or without a chest -/
def TOk (m : Nat) (b : Bool) (t : Thing) : Prop := (t.kind = .box ∨ t.kind = .fixed → ∃ r, t.place = .room r) ∧ (∀ r, t.place = .room r → r < m) ∧ ∀ k, t.place = .box k → b = true ∧ k = 0
structure ThOk (m : Nat) (ts : List Thing) : Prop where
  len : ts.length ≤ 4
  ok : ∀ t ∈ ts, TOk m (decide ((ts[0]?).map Thing.kind = some .box)) t
theorem kR1_3 {g1 : G} : kR1r (.sh (.int 3), g1) = some (.ow ((List.range 3).map intD), g1) := kR1i (n := 3) (by omega)
section
variable {W : World} {S T : State} {g : G} {n : Nat}
open K04 in
theorem things_if (g : G) {m : Nat} (h1 : 2 ≤ m) (h2 : m ≤ 4) {x2 x4 x5 x6 x7 x8 x9 : Option Vl} : ∃ (ch : List Thing) (g1 : G), ex ⟨call prog cst (n + 2), cst⟩ thingsIf [some .gen, some (.sh (.int m)), x2, some (.ow []), x4, x5, x6, x7, x8, x9] g = some (.nx, [some .gen, some (.sh (.int m)), x2, some (.ow (ch.map Thing.d)), x4, x5, x6, x7, x8, x9], g1) ∧ ChOk m ch := by
  obtain ⟨i, g1, ht1, hi⟩ := c_take (n + 1) g (m := 2) (by omega) (by omega)
  have ht1 : call prog cst (n + 2) "_law_take" true [.int 2] g = some (.sh (.int i), g1) := ht1
  unfold thingsIf
  simp_arith [kCa_g0, ht1]
  cases decide ((i : Int) = 0) with
  | false =>
    simp_arith []
    exact ⟨[], g1, rfl, .inl rfl⟩
  | true =>
    obtain ⟨ws, hws, g2, hp1⟩ := c_pickM phD n g1 (xs := chestP) (by decide +kernel) (by decide +kernel)
    have hp1 : call prog cst (n + 2) "_law_pick" true [.list [.tuple [.str "chest"], .tuple [.str "red", .str "chest"]]] g1 = some (.sh (phD ws), g2) := hp1
    obtain ⟨r, g3, ht2, hr⟩ := c_take (n + 1) g2 (m := m) (by omega) (by omega)
    have ht2 : call prog cst (n + 2) "_law_take" true [.int m] g2 = some (.sh (.int r), g3) := ht2
    obtain ⟨c, g4, ht3, hc⟩ := c_take (n + 1) g3 (m := 2) (by omega) (by omega)
    have ht3 : call prog cst (n + 2) "_law_take" true [.int 2] g3 = some (.sh (.int c), g4) := ht3
    obtain ⟨st, hst, g5, hp2⟩ := c_pickM lsD n g4 (xs := LS.all) (by decide +kernel) (by decide +kernel)
    have hp2 : call prog cst (n + 2) "_law_pick" true [.list [.str "open", .str "closed", .str "locked"]] g4 = some (.sh (lsD st), g5) := hp2
    simp_arith [kLi_eq, kCa_g0, hp1, ht2, ht3, hp2]
    rw [if_pos (by rw [sizeLine_eq]; exact Nat.zero_lt_succ _)]
    exact ⟨[⟨"chest", ws, .box, .room r, 1 + c, st, false⟩], g5, rfl, .inr ⟨_, rfl, rfl, r, rfl, hr⟩⟩
open K04 in
theorem kind_e (g : G) {ρ : Env} : ∃ (kd : Kind) (g1 : G), ev ⟨call prog cst (n + 2), cst⟩ (.ie (.cm .eq (.ca "_law_take" (some 0) (.cons (.int 4) .nil)) (.int 0)) (.str "lamp") (.ie (.cm .eq (.ca "_law_take" (some 0) (.cons (.int 6) .nil)) (.int 0)) (.str "fixed") (.str "thing"))) (some .gen :: ρ) g = some (.sh (.str kd.s), g1) ∧ kd ≠ .box := by
  obtain ⟨i, g1, ht1, hi⟩ := c_take (n + 1) g (m := 4) (by omega) (by omega)
  have ht1 : call prog cst (n + 2) "_law_take" true [.int 4] g = some (.sh (.int i), g1) := ht1
  simp_arith [kCa_g0, ht1]
  cases decide ((i : Int) = 0) with
  | true =>
    simp_arith []
    exact ⟨.lamp, g1, rfl, by decide⟩
  | false =>
    obtain ⟨j, g2, ht2, hj⟩ := c_take (n + 1) g1 (m := 6) (by omega) (by omega)
    have ht2 : call prog cst (n + 2) "_law_take" true [.int 6] g1 = some (.sh (.int j), g2) := ht2
    simp_arith [kCa_g0, ht2]
    cases decide ((j : Int) = 0) with
    | true =>
      simp_arith []
      exact ⟨.fixed, g2, rfl, by decide⟩
    | false =>
      simp_arith []
      exact ⟨.thing, g2, rfl, by decide⟩
open K04 in
theorem place_e (g : G) {m : Nat} (h1 : 2 ≤ m) (h2 : m ≤ 4) {spots : List Place} (h3 : 1 ≤ spots.length) (h4 : spots.length ≤ 10) {kd : Kind} {x2 x3 x5 x6 x7 x9 : Option Vl} : ∃ (p : Place) (g1 : G), ev ⟨call prog cst (n + 2), cst⟩ (.ie (.cm .ne (.nm 8) (.str "fixed")) (.ca "_law_pick" (some 0) (.cons (.nm 4) .nil)) (.tu (.cons (.str "room") (.cons (.ca "_law_take" (some 0) (.cons (.nm 1) .nil)) .nil)))) [some .gen, some (.sh (.int m)), x2, x3, some (.sh (.list (spots.map Place.d))), x5, x6, x7, some (.sh (.str kd.s)), x9] g = some (.sh p.d, g1) ∧ (p ∈ spots ∨ ∃ r, p = .room r ∧ r < m) ∧ (kd = .fixed → ∃ r, p = .room r) := by
  simp_arith []
  by_cases hk : kd = .fixed
  · subst hk
    obtain ⟨r, g3, ht2, hr⟩ := c_take (n + 1) g (m := m) (by omega) (by omega)
    have ht2 : call prog cst (n + 2) "_law_take" true [.int m] g = some (.sh (.int r), g3) := ht2
    simp_arith [kCa_g0, ht2]
    exact ⟨.room r, g3, rfl, .inr ⟨r, rfl, hr⟩, fun _ => ⟨r, rfl⟩⟩
  · obtain ⟨p, hp, g1, hp1⟩ := c_pickM Place.d n g (xs := spots) h3 (by omega)
    simp_arith [decide_eq_false hk, kCa_g0, hp1]
    exact ⟨p, g1, rfl, .inl hp, fun h => absurd h hk⟩
def exOf (kd : Kind) (lit : Bool) : D := match kd with
  | .lamp => .str (litS lit)
  | _ => .none
open K04 in
theorem ex_e (g : G) {kd : Kind} {x1 x2 x3 x4 x5 x6 x7 x9 : Option Vl} : ∃ (b : Bool) (g1 : G), ev ⟨call prog cst (n + 2), cst⟩ (.ie (.cm .eq (.nm 8) (.str "lamp")) (.ca "_law_pick" (some 0) (.cons (.li (.cons (.str "lit") (.cons (.str "out") .nil))) .nil)) .non) [some .gen, x1, x2, x3, x4, x5, x6, x7, some (.sh (.str kd.s)), x9] g = some (.sh (exOf kd b), g1) := by
  simp_arith []
  by_cases hk : kd = .lamp
  · subst hk
    obtain ⟨b, hb, g1, hp1⟩ := c_pickM ltD2 n g (xs := [true, false]) (by decide +kernel) (by decide +kernel)
    have hp1 : call prog cst (n + 2) "_law_pick" true [.list [.str "lit", .str "out"]] g = some (.sh (ltD2 b), g1) := hp1
    simp_arith [kLi_eq, kCa_g0, hp1]
    exact ⟨b, g1, rfl⟩
  · simp_arith [decide_eq_false hk]
    exact ⟨false, g, by cases kd <;> first | rfl | exact absurd rfl hk⟩
open K04 in
theorem c_things (g : G) {m : Nat} (h1 : 2 ≤ m) (h2 : m ≤ 4) : ∃ (ts : List Thing) (g1 : G), call prog cst (n + 3) "_law_things" true [.int m, .int 3] g = some (.ow (ts.map Thing.d), g1) ∧ ThOk m ts := by
  rw [u_law_things]
  obtain ⟨ch, g1, hif, hch⟩ := things_if (n := n) g h1 h2 (x2 := some (.sh (.int 3))) (x4 := none) (x5 := none) (x6 := none) (x7 := none) (x8 := none) (x9 := none)
  have hcl : ch.length ≤ 1 := by
    rcases hch with rfl | ⟨t, rfl, _⟩ <;> simp
  have hch0 : ∀ t ∈ ch, TOk m (decide (ch ≠ [])) t := by
    rcases hch with rfl | ⟨t0, rfl, hk0, r, hr, hrm⟩
    · exact fun t ht => (List.not_mem_nil ht).elim
    · intro t ht
      cases List.mem_singleton.mp ht
      exact ⟨fun _ => ⟨r, hr⟩, fun q e => (by rw [hr] at e; cases e; exact hrm), fun k e => (by rw [hr] at e; cases e)⟩
  rw [show F_law_things.body = .seq (.as_ 3 (.li .nil)) (.seq thingsIf thingsTl) from rfl]
  rw [ex_seq, ex_as, ev_li, ev_nil]
  simp only [Option.bind_some, kLi_eq, kAs_ow, List.set_cons_zero, List.set_cons_succ, kS_nx, ex_seq, hif]
  unfold thingsTl
  simp_arith []
  rw [ev_lc (α := Nat) intD (fun _ => true) (fun k => (Place.room k).d) (xs := List.range m) (vi := .ow ((List.range m).map intD)) ?_ rfl ?_]
  rotate_left 1
  · simp_arith [kR1i (show m ≤ 16777216 by omega)]
  · intro k _
    exact ⟨_, rfl, rfl, fun _ => ⟨.sh (Place.room k).d, rfl, rfl⟩⟩
  simp_arith [filt_true, kLi_eq, eqD_lnil', bi_addL (show ((List.range m).map fun k => (Place.room k).d).length + [PyData.tuple [.str (Str.ofString "held")]].length ≤ sizeLine by rw [List.length_map, List.length_range, sizeLine_eq]; simp only [List.length_cons, List.length_nil]; omega)]
  obtain ⟨spots, hs1, hs2, hs3⟩ : ∃ spots : List Place, (kIe ⟨call prog cst (n + 2), cst⟩ (.li (.cons (.tu (.cons (.str "box") (.cons (.int 0) .nil))) .nil)) (.li .nil) [some .gen, some (.sh (.int m)), some (.sh (.int 3)), some (.ow (ch.map Thing.d)), none, none, none, none, none, none] (!(ch.map Thing.d).isEmpty, g1)).bind (kB2 (fBi .add) (.list (((List.range m).map fun k => (Place.room k).d) ++ [PyData.tuple [.str (Str.ofString "held")]]))) = some (.ow (spots.map Place.d), g1) ∧ (1 ≤ spots.length ∧ spots.length ≤ 10) ∧ ∀ p ∈ spots, (∀ r, p = .room r → r < m) ∧ ∀ k, p = .box k → ch ≠ [] ∧ k = 0 := by
    have hrm : ∀ p ∈ (List.range m).map Place.room ++ [Place.held], (∀ r, p = .room r → r < m) ∧ ∀ k, p = .box k → ch ≠ [] ∧ k = 0 := by
      intro p hp
      rcases List.mem_append.mp hp with hp | hp
      · obtain ⟨r, hr, rfl⟩ := List.mem_map.mp hp
        exact ⟨fun q e => (by cases e; exact List.mem_range.mp hr), fun k e => (by cases e)⟩
      · cases List.mem_singleton.mp hp
        exact ⟨fun q e => (by cases e), fun k e => (by cases e)⟩
    cases ch with
    | nil =>
      simp_arith [List.map_nil, List.isEmpty_nil, kLi_eq]
      rw [bi_addL (by rw [List.length_append, List.length_map, List.length_range, sizeLine_eq]; simp only [List.length_cons, List.length_nil]; omega)]
      refine ⟨(List.range m).map Place.room ++ [.held], by rw [List.map_append, List.map_map, List.append_nil]; rfl, ?_, hrm⟩
      simp only [List.length_append, List.length_map, List.length_range, List.length_cons, List.length_nil]
      omega
    | cons t ts =>
      simp_arith [List.map_cons, List.isEmpty_cons, kLi_eq]
      rw [bi_addL (by rw [List.length_append, List.length_map, List.length_range, sizeLine_eq]; simp only [List.length_cons, List.length_nil]; omega)]
      refine ⟨(List.range m).map Place.room ++ [.held] ++ [.box 0], by rw [List.map_append, List.map_append, List.map_map]; rfl, ?_, ?_⟩
      · simp only [List.length_append, List.length_map, List.length_range, List.length_cons, List.length_nil]
        omega
      · intro p hp
        rcases List.mem_append.mp hp with hp | hp
        · exact hrm p hp
        · cases List.mem_singleton.mp hp
          exact ⟨fun q e => (by cases e), fun k e => (by cases e; exact ⟨by simp, rfl⟩)⟩
  rw [hs1]
  simp_arith [kLi_eq, kPa_eq, setAll, List.length_cons, List.length_nil, kR1_3]
  rw [kFo_eq share_ow itL]
  generalize hF : forLoop _ _ ((List.range 3).map intD) _ g1 = F
  obtain ⟨ρ1, g2, rfl, ts, y5, y8, y9, rfl, hpre, hlen, hok⟩ := fo_invF intD hF
    (fun zs ρ g => ∃ (ts : List Thing) (y5 y8 y9 : Option Vl), ρ = [some .gen, some (.sh (.int m)), some (.sh (.int 3)), some (.ow (ts.map Thing.d)), some (.sh (.list (spots.map Place.d))), y5, some (.sh (.list [.str "pin", .str "orb", .str "cup"])), some (.sh (.list (thingP.map phD))), y8, y9] ∧ ch <+: ts ∧ ts.length = ch.length + zs.length ∧ ∀ t ∈ ts, TOk m (decide (ch ≠ [])) t)
    ⟨ch, none, none, none, rfl, List.prefix_refl _, rfl, hch0⟩ (by
    rintro zs x ρ g2 hx hpre ⟨ts, y5, y8, y9, rfl, hpr, hlen, hok⟩
    have hzl := hpre.length_le
    rw [List.length_append, List.length_singleton, List.length_range] at hzl
    have hx := List.mem_range.mp hx
    refine ⟨[some .gen, some (.sh (.int m)), some (.sh (.int 3)), some (.ow (ts.map Thing.d)), some (.sh (.list (spots.map Place.d))), some (.sh (.int x)), some (.sh (.list [.str "pin", .str "orb", .str "cup"])), some (.sh (.list (thingP.map phD))), y8, y9], rfl, ?_⟩
    obtain ⟨kd, g3, hk, hkb⟩ := kind_e (n := n) g2 (ρ := [some (.sh (.int m)), some (.sh (.int 3)), some (.ow (ts.map Thing.d)), some (.sh (.list (spots.map Place.d))), some (.sh (.int x)), some (.sh (.list [.str "pin", .str "orb", .str "cup"])), some (.sh (.list (thingP.map phD))), y8, y9])
    obtain ⟨p, g4, hp, hpm, hpf⟩ := place_e (n := n) g3 h1 h2 hs2.1 hs2.2 (kd := kd) (spots := spots) (x2 := some (.sh (.int 3))) (x3 := some (.ow (ts.map Thing.d))) (x5 := some (.sh (.int x))) (x6 := some (.sh (.list [.str "pin", .str "orb", .str "cup"]))) (x7 := some (.sh (.list (thingP.map phD)))) (x9 := y9)
    obtain ⟨ws, hws, g5, hp1⟩ := c_pickM phD n g4 (xs := thingP) (by decide +kernel) (by decide +kernel)
    obtain ⟨b, g6, hb⟩ := ex_e (n := n) g5 (kd := kd) (x1 := some (.sh (.int m))) (x2 := some (.sh (.int 3))) (x3 := some (.ow (ts.map Thing.d))) (x4 := some (.sh (.list (spots.map Place.d)))) (x5 := some (.sh (.int x))) (x6 := some (.sh (.list [.str "pin", .str "orb", .str "cup"]))) (x7 := some (.sh (.list (thingP.map phD)))) (x9 := some (.sh p.d))
    obtain ⟨nm, hnm⟩ : ∃ nm : Str, ixD (.list [.str "pin", .str "orb", .str "cup"]) (.int x) = some (.str nm) := by
      rw [at_natL]
      rcases x with _ | _ | _ | x
      · exact ⟨_, rfl⟩
      · exact ⟨_, rfl⟩
      · exact ⟨_, rfl⟩
      · omega
    simp_arith [↓hk, ↓hp, ↓hb, kCa_g0, hp1, hnm, List.length_map]
    rw [if_pos (by rw [sizeLine_eq]; omega)]
    refine ⟨_, _, rfl, ts ++ [⟨nm, ws, kd, p, 0, .open_, b⟩], some (.sh (.int x)), some (.sh (.str kd.s)), some (.sh p.d), ?_, List.IsPrefix.trans hpr (List.prefix_append _ _), by rw [List.length_append, List.length_append, hlen]; simp only [List.length_cons, List.length_nil]; omega, ?_⟩
    · rw [List.map_append]
      cases kd <;> first | rfl | exact absurd rfl hkb
    · intro t ht
      rcases List.mem_append.mp ht with ht | ht
      · exact hok t ht
      · cases List.mem_singleton.mp ht
        refine ⟨fun hh => ?_, fun r hr => ?_, fun k hk => ?_⟩
        · rcases hh with hh | hh
          · exact absurd hh hkb
          · exact hpf hh
        · have hr : p = .room r := hr
          rcases hpm with hpm | ⟨q, hq, hqm⟩
          · exact (hs3 p hpm).1 r hr
          · rw [hq] at hr; cases hr; exact hqm
        · have hk : p = .box k := hk
          rcases hpm with hpm | ⟨q, hq, hqm⟩
          · have := (hs3 p hpm).2 k hk
            exact ⟨decide_eq_true this.1, this.2⟩
          · rw [hq] at hk; cases hk)
  simp_arith []
  refine ⟨ts, g2, rfl, by rw [hlen, List.length_range]; omega, fun t ht => ?_⟩
  have h0 := hok t ht
  refine ⟨h0.1, h0.2.1, fun k hk => ?_⟩
  obtain ⟨h3, h4⟩ := h0.2.2 k hk
  refine ⟨?_, h4⟩
  rcases hch with rfl | ⟨t0, rfl, hk0, r, hr, hrm⟩
  · exact absurd rfl (of_decide_eq_true h3)
  · obtain ⟨ts2, rfl⟩ := hpre
    rw [decide_eq_true_iff]
    show some t0.kind = _
    rw [hk0]
end
end Pu.Tw
set_option Elab.async false
set_option maxRecDepth 100000
set_option maxHeartbeats 8000000
set_option linter.all false
/-! M25: conditions and effects drawn. -/
namespace Pu.Tw
open PySem L2 Pu.St
local macro_rules | `(tactic| simp_arith [$ls,*] $[$loc]?) => `(tactic| simp only [ev_nil, ev_cons, kC1_eq, kC0_eq, kC2_eq, ev_nm, nmV_eq, ev_int, ev_str, ev_bl, ev_non, ev_gl, ev_tu, ev_li, kLi_eq, kB1_eq, kB0_eq, kB2_eq, ev_bi, ev_cm, fBi_eq, fCm_eq, ev_ch, fCh_eq, kCh_t, kCh_f, ev_neg, kNeg_eq, ev_an, ev_or, kAn_t, kAn_f, kOr_t, kOr_f, ev_no, kNo_eq, evT_eq, kT_eq, kT_ow, ev_ie, kIe_t, kIe_f, ev_ix, kIx_eq, kIx2_sh, kIx2_bw, kIx2_ow, kIx2_od, kIx2_bd, ev_sl, kSl_eq, kSl0_eq, kSl1_eq, kSl2_eq, pO_nil, pO_int, pO_nm, pO_bi, pO_ix, pO_bf, kPO_eq, ev_ca, kCa_n, evR_nil, evR_cons, kR1_eq, kR0_eq, ev_bf, kBf_eq, ev_me, kMe_eq, kMe2_eq, ev_isi, kIsi_sh, ev_r1, ev_l1, ev_r2, kR2r_eq, ex_nop, ex_seq, kS_nx, kS_rt, kS_br, kS_ct, ex_as, kAs_sh, kAs_ow, kAs_od, ex_par, evP_nil, evP_cons, kP1_eq, kP0_eq, ex_up, ex_if, kIf_t, kIf_f, ex_re, kRe_sh, kRe_ow, kRe_bw, ex_ap, ex_ex, ex_fz, fzV_ow, fzV_sh, kAp_sh, kAp_ow, apV_ow, kEx_ow, kEx_bw, exV_ow, ex_fo, ex_rn, share_sh, share_ow, rd_sh, rd_ow, rd_bw, bo_sh, bo_ow, bo_od, keep_sh, keep_ow, lst_ow, lst_bw, kF_rt, kF_nx, List.getElem?_cons_zero, List.getElem?_cons_succ, Option.bind_some, Option.map_some, List.set_cons_zero, List.set_cons_succ, String.reduceEq, decide_false, decide_true, Bool.not_true, Bool.not_false, cm_eq, cm_ne, cm_in, cm_nin, cm_is, cm_isn, eqD_str, eqD_str', eqD_int, eqD_int', eqv_str, eqv_int, ofString_inj, in_tup, in_lst, ix_0, ix_1, ix_2, ix_map, ix_mapL, W1, W2, W3, W4, W5, W6, W7, W8, W9, W10, W11, W12, S0, S1, S2, S3, S4, S5, S6, T2, T3, T4, D1, D3, D4, D5, len_tup, len_lst, bi_add, Kind.eq_box, Kind.eq_lamp, Kind.eq_thing, Kind.eq_fixed, LS.eq, LS.eq_open, LS.eq_closed, LS.eq_locked, lit_eq, on_eq, wipeE, Tg.slots, bindTg, Place.eqD, Place.eqv, Lock.eqv, List.any_cons, List.any_nil, z0, z1, cm_lt, cm_le, cm_gt, cm_ge, bi_sub, Int.natCast_inj, $ls,*] $[$loc]?)

def World.pd (W : World) : D := .tuple [.str "world", .tuple (W.rooms.map roomD), .tuple (W.ways.map wayD), .tuple (W.doors.map Door.d), .tuple (W.things.map Thing.d), .tuple (W.keys.map keyDD), W.marksD, W.countsD]
structure Half (W : World) : Prop where
  r1 : 1 ≤ W.rooms.length
  r4 : W.rooms.length ≤ 4
  t4 : W.things.length ≤ 4
section
variable {W : World} {S T : State} {g : G} {n : Nat}
theorem Q1 : ixD W.pd (.int 1) = some (.tuple (W.rooms.map roomD)) := rfl
theorem Q3 : ixD W.pd (.int 3) = some (.tuple (W.doors.map Door.d)) := rfl
theorem Q4 : ixD W.pd (.int 4) = some (.tuple (W.things.map Thing.d)) := rfl
theorem eqD_tnil' {xs : List D} : Pu.eqD (.tuple xs) (.tuple []) = some xs.isEmpty := by
  rw [eqD_small' (by simp [PyData.depth, PyData.depthAll])]
  cases xs <;> rfl
theorem free_e {c : Cf} {ρ : Env} (h : Half W) (hρ : (ρ.set 4 none)[1]? = some (some (.sh W.pd))) (hρ4 : 4 < ρ.length) (hρ1 : ρ[1]? = some (some (.sh W.pd))) : ev c (.lc (.nm 4) (.r1 (.bf .len (.cons (.ix (.nm 1) (.int 4)) .nil))) (.cm .in_ (.ix (.ix (.ix (.nm 1) (.int 4)) (.nm 4)) (.int 2)) (.tu (.cons (.str "thing") (.cons (.str "lamp") .nil)))) (.nm 4)) ρ g = some (.ow ((freeL W).map intD), g) := by
  have h4 := h.t4
  refine ev_lc (α := Nat) intD (fun k => decide (kindAt W k = some .thing) || decide (kindAt W k = some .lamp)) intD (xs := List.range W.things.length) (vi := .ow ((List.range W.things.length).map intD)) ?_ rfl ?_
  · simp_arith [hρ1, Q4, List.length_map, kR1i (show W.things.length ≤ 16777216 by omega)]
  · intro k hk
    have hk := List.mem_range.mp hk
    obtain ⟨t, ht⟩ := get_some hk
    have e1 : ((ρ.set 4 none).set 4 (some (.sh (intD k))))[1]? = some (some (.sh W.pd)) := by
      rw [List.getElem?_set_ne (by decide)]; exact hρ
    have e4 : ((ρ.set 4 none).set 4 (some (.sh (intD k))))[4]? = some (some (.sh (intD k))) := by
      rw [List.getElem?_set_self (by rw [List.length_set]; exact hρ4)]
    refine ⟨_, rfl, ?_, fun _ => ⟨.sh (intD k), ?_, rfl⟩⟩
    · simp_arith [e1, e4, Q4]
      simp_arith [intD, ht, kind_of ht]
      cases t.kind <;> simp [Kind.s, ofString_inj]
    · simp_arith [e4]
open K04 in
theorem g_single (h : Half W) (g : G) : ∃ (c : Cond) (g1 : G), call prog cst (n + 3) "_law_single" true [W.pd] g = some (.sh c.d, g1) ∧ CondOk W c ∧ c.ht = 0 := by
  have h1 := h.r1
  have h2 := h.r4
  have h3 := h.t4
  have hfl := free_len (W := W)
  rw [u_law_single]
  obtain ⟨k, g1, ht1, hk⟩ := c_take (n + 1) g (m := 7) (by omega) (by omega)
  have ht1 : call prog cst (n + 2) "_law_take" true [.int 7] g = some (.sh (.int k), g1) := ht1
  obtain ⟨r, g2, ht2, hr⟩ := c_take (n + 1) g1 (m := W.rooms.length) (by omega) (by omega)
  simp_arith [F_law_single, kCa_g0, ht1]
  rw [free_e h rfl (by simp) rfl]
  simp_arith []
  rw [kOr_b (y := ((freeL W).map intD).isEmpty) (by simp_arith [kLi_eq, eqD_lnil'])]
  simp_arith []
  cases hb : (decide ((k : Int) = 0) || ((freeL W).map intD).isEmpty) with
  | true =>
    simp_arith [Q1, List.length_map, kCa_g0, ht2]
    exact ⟨.at_ r, g2, rfl, True.intro, rfl⟩
  | false =>
    rw [Bool.or_eq_false_iff, decide_eq_false_iff_not] at hb
    have hpos : 1 ≤ (freeL W).length := by
      cases hf : freeL W with
      | nil => rw [hf] at hb; exact absurd hb.2 (by simp)
      | cons _ _ => simp
    obtain ⟨t, htm, g3, ht3⟩ := c_pickM intD n g1 (xs := freeL W) hpos (by omega)
    have htlt := mov_lt (free_mem htm)
    simp_arith []
    cases decide ((k : Int) = 1) with
    | true =>
      simp_arith [kCa_g0, ht3]
      exact ⟨.has t, g3, rfl, htlt, rfl⟩
    | false =>
      simp_arith []
      cases decide ((k : Int) = 2) with
      | true =>
        obtain ⟨r2, g4, ht4, hr2⟩ := c_take (n + 1) g3 (m := W.rooms.length) (by omega) (by omega)
        obtain ⟨p, hp, g5, ht5⟩ := c_pickM Place.d n g4 (xs := [.room r2, .held, .gone]) (by simp) (by simp)
        have ht5 : call prog cst (n + 2) "_law_pick" true [.list [.tuple [.str "room", .int r2], .tuple [.str "held"], .tuple [.str "gone"]]] g4 = some (.sh p.d, g5) := ht5
        simp_arith [kCa_g0, ht3, Q1, List.length_map, ht4, kLi_eq, ht5]
        exact ⟨.lies t p, g5, rfl, htlt, rfl⟩
      | false =>
        simp_arith []
        rw [kAn_b (y := !(W.doors.map Door.d).isEmpty) (by simp_arith [Q3, eqD_tnil'])]
        simp_arith []
        cases hd : (decide ((k : Int) = 3) && !(W.doors.map Door.d).isEmpty) with
        | true =>
          simp_arith []
          refine ⟨.open_ (.door 0), g1, rfl, ?_, rfl⟩
          rw [Bool.and_eq_true] at hd
          show 0 < W.doors.length
          cases hf : W.doors with
          | nil => rw [hf] at hd; exact absurd hd.2 (by simp)
          | cons _ _ => simp
        | false =>
          have hlc : ∀ {x : D}, ev ⟨call prog cst (n + 2), cst⟩ (.lc (.nm 4) (.nm 3) (.cm .eq (.ix (.ix (.ix (.nm 1) (.int 4)) (.nm 4)) (.int 2)) (.str "lamp")) (.nm 4)) [some .gen, some (.sh W.pd), some (.sh x), some (.sh (.list ((freeL W).map intD))), none] g1 = some (.ow (((freeL W).filter fun k => decide (kindAt W k = some .lamp)).map intD), g1) := by
            intro x
            refine ev_lc (α := Nat) intD (fun k => decide (kindAt W k = some .lamp)) intD (xs := freeL W) (vi := .sh (.list ((freeL W).map intD))) ?_ rfl ?_
            · simp_arith []
            · intro k hk
              obtain ⟨t, ht⟩ := get_some (mov_lt (free_mem hk))
              refine ⟨_, rfl, ?_, fun _ => ⟨_, rfl, rfl⟩⟩
              simp_arith [Q4, intD, ht, kind_of ht, Option.some.injEq]
          simp_arith []
          rw [kAn_b (y := !(((freeL W).filter fun k => decide (kindAt W k = some .lamp)).map intD).isEmpty) (by simp_arith [↓hlc, kLi_eq, eqD_lnil'])]
          simp_arith []
          cases hl : (decide ((k : Int) = 4) && !(((freeL W).filter fun k => decide (kindAt W k = some .lamp)).map intD).isEmpty) with
          | true =>
            rw [Bool.and_eq_true] at hl
            cases hf : (freeL W).filter fun k => decide (kindAt W k = some .lamp) with
            | nil => rw [hf] at hl; exact absurd hl.2 (by simp)
            | cons t0 ts =>
              have hm : t0 ∈ (freeL W).filter fun k => decide (kindAt W k = some .lamp) := by rw [hf]; exact List.mem_cons_self
              have hlm : kindAt W t0 = some .lamp := of_decide_eq_true (List.mem_filter.mp hm).2
              rw [hf] at hlc
              simp_arith [↓hlc, List.map_cons, L0]
              exact ⟨.lit t0, g1, rfl, hlm, rfl⟩
          | false =>
            simp_arith []
            cases decide ((k : Int) = 5) with
            | true =>
              obtain ⟨c, g4, ht4, hc⟩ := c_take (n + 1) g1 (m := 2) (by omega) (by omega)
              have ht4 : call prog cst (n + 2) "_law_take" true [.int 2] g1 = some (.sh (.int c), g4) := ht4
              simp_arith [kCa_g0, ht4]
              exact ⟨.lt 0 (1 + c), g4, rfl, rfl, rfl⟩
            | false =>
              simp_arith []
              exact ⟨.mark 0, g1, rfl, rfl, rfl⟩
open K04 in
theorem cond_2 (h : Half W) (g : G) : ∃ (c : Cond) (g1 : G), call prog cst (n + 4) "_law_condition" true [W.pd, .int 2] g = some (.sh c.d, g1) ∧ CondOk W c ∧ c.ht ≤ 0 := by
  obtain ⟨c, g1, h1, h2, h3⟩ := g_single (n := n) h g
  rw [u_law_condition]
  simp_arith [F_law_condition, kCa_g0, show decide ((2 : Int) < 2) = false from rfl, show decide ((0 : Int) < 3) = true from rfl, h1]
  exact ⟨c, g1, rfl, h2, Nat.le_of_eq h3⟩
open K04 in
/-- one level up -/
theorem cond_up (h : Half W) {l : Int} {b : Nat} (hl : l < 2) (ih : ∀ g, ∃ (c : Cond) (g1 : G), call prog cst (n + 4) "_law_condition" true [W.pd, .int (l + 1)] g = some (.sh c.d, g1) ∧ CondOk W c ∧ c.ht ≤ b) (g : G) :
    ∃ (c : Cond) (g1 : G), call prog cst (n + 5) "_law_condition" true [W.pd, .int l] g = some (.sh c.d, g1) ∧ CondOk W c ∧ c.ht ≤ b + 1 := by
  obtain ⟨k, g1, ht1, hk⟩ := c_take (n + 3) g (m := 6) (by omega) (by omega)
  have ht1 : call prog cst (n + 4) "_law_take" true [.int 6] g = some (.sh (.int k), g1) := ht1
  rw [u_law_condition]
  simp_arith [F_law_condition, kCa_g0, decide_eq_true hl, ht1]
  cases decide ((k : Int) < 3) with
  | true =>
    obtain ⟨c, g2, h1, h2, h3⟩ := g_single (n := n + 1) h g1
    have h1 : call prog cst (n + 4) "_law_single" true [W.pd] g1 = some (.sh c.d, g2) := h1
    simp_arith [kCa_g0, h1]
    exact ⟨c, g2, rfl, h2, by omega⟩
  | false =>
    simp_arith []
    cases decide ((k : Int) = 3) with
    | true =>
      obtain ⟨c, g2, h1, h2, h3⟩ := ih g1
      simp_arith [kCa_g0, h1]
      exact ⟨.not c, g2, rfl, h2, by show c.ht + 1 ≤ _; omega⟩
    | false =>
      obtain ⟨b1, hb1, g2, hp1⟩ := c_pickM (fun b : Bool => PyData.str (if b then "and" else "or")) (n + 2) g1 (xs := [true, false]) (by decide +kernel) (by decide +kernel)
      have hp1 : call prog cst (n + 4) "_law_pick" true [.list [.str "and", .str "or"]] g1 = some (.sh (.str (if b1 then "and" else "or")), g2) := hp1
      obtain ⟨c, g3, h1, h2, h3⟩ := ih g2
      obtain ⟨c2, g4, h4, h5, h6⟩ := ih g3
      simp_arith [kCa_g0, kLi_eq, hp1, h1, h4]
      cases b1 with
      | true => exact ⟨.and c c2, g4, rfl, ⟨h2, h5⟩, by show max c.ht c2.ht + 1 ≤ _; omega⟩
      | false => exact ⟨.or c c2, g4, rfl, ⟨h2, h5⟩, by show max c.ht c2.ht + 1 ≤ _; omega⟩
open K04 in
theorem cond_1 (h : Half W) (g : G) : ∃ (c : Cond) (g1 : G), call prog cst (n + 5) "_law_condition" true [W.pd, .int 1] g = some (.sh c.d, g1) ∧ CondOk W c ∧ c.ht ≤ 1 := cond_up (n := n) h (l := 1) (b := 0) (by decide) (fun g => cond_2 h g) g
open K04 in
theorem cond_0 (h : Half W) (g : G) : ∃ (c : Cond) (g1 : G), call prog cst (n + 6) "_law_condition" true [W.pd, .int 0] g = some (.sh c.d, g1) ∧ CondOk W c ∧ c.ht ≤ 2 := cond_up (n := n + 1) h (l := 0) (b := 1) (by decide) (fun g => cond_1 h g) g
end
end Pu.Tw
set_option Elab.async false
set_option maxRecDepth 100000
set_option maxHeartbeats 8000000
set_option linter.all false
/-! M26: effects drawn. -/
namespace Pu.Tw
open PySem L2 Pu.St
local macro_rules | `(tactic| simp_arith [$ls,*] $[$loc]?) => `(tactic| simp only [ev_nil, ev_cons, kC1_eq, kC0_eq, kC2_eq, ev_nm, nmV_eq, ev_int, ev_str, ev_bl, ev_non, ev_gl, ev_tu, ev_li, kLi_eq, kB1_eq, kB0_eq, kB2_eq, ev_bi, ev_cm, fBi_eq, fCm_eq, ev_ch, fCh_eq, kCh_t, kCh_f, ev_neg, kNeg_eq, ev_an, ev_or, kAn_t, kAn_f, kOr_t, kOr_f, ev_no, kNo_eq, evT_eq, kT_eq, kT_ow, ev_ie, kIe_t, kIe_f, ev_ix, kIx_eq, kIx2_sh, kIx2_bw, kIx2_ow, kIx2_od, kIx2_bd, ev_sl, kSl_eq, kSl0_eq, kSl1_eq, kSl2_eq, pO_nil, pO_int, pO_nm, pO_bi, pO_ix, pO_bf, kPO_eq, ev_ca, kCa_n, evR_nil, evR_cons, kR1_eq, kR0_eq, ev_bf, kBf_eq, ev_me, kMe_eq, kMe2_eq, ev_isi, kIsi_sh, ev_r1, ev_l1, ev_r2, kR2r_eq, ex_nop, ex_seq, kS_nx, kS_rt, kS_br, kS_ct, ex_as, kAs_sh, kAs_ow, kAs_od, ex_par, evP_nil, evP_cons, kP1_eq, kP0_eq, ex_up, ex_if, kIf_t, kIf_f, ex_re, kRe_sh, kRe_ow, kRe_bw, ex_ap, ex_ex, ex_fz, fzV_ow, fzV_sh, kAp_sh, kAp_ow, apV_ow, kEx_ow, kEx_bw, exV_ow, ex_fo, ex_rn, share_sh, share_ow, rd_sh, rd_ow, rd_bw, bo_sh, bo_ow, bo_od, keep_sh, keep_ow, lst_ow, lst_bw, kF_rt, kF_nx, List.getElem?_cons_zero, List.getElem?_cons_succ, Option.bind_some, Option.map_some, List.set_cons_zero, List.set_cons_succ, String.reduceEq, decide_false, decide_true, Bool.not_true, Bool.not_false, cm_eq, cm_ne, cm_in, cm_nin, cm_is, cm_isn, eqD_str, eqD_str', eqD_int, eqD_int', eqv_str, eqv_int, ofString_inj, in_tup, in_lst, ix_0, ix_1, ix_2, ix_map, ix_mapL, W1, W2, W3, W4, W5, W6, W7, W8, W9, W10, W11, W12, S0, S1, S2, S3, S4, S5, S6, T2, T3, T4, D1, D3, D4, D5, len_tup, len_lst, bi_add, Kind.eq_box, Kind.eq_lamp, Kind.eq_thing, Kind.eq_fixed, LS.eq, LS.eq_open, LS.eq_closed, LS.eq_locked, lit_eq, on_eq, wipeE, Tg.slots, bindTg, Place.eqD, Place.eqv, Lock.eqv, List.any_cons, List.any_nil, z0, z1, cm_lt, cm_le, cm_gt, cm_ge, bi_sub, Int.natCast_inj, $ls,*] $[$loc]?)

def sayP : List Eff := [.say ["ding"], .say ["oh", "no"], .go 0]
section
variable {W : World} {S T : State} {g : G} {n : Nat}
theorem nat_1 {i : Nat} : (1 : Int) + (i : Int) = ((1 + i : Nat) : Int) := by omega
open K04 in
theorem g_effects (h : Half W) (g : G) : ∃ (fs : List Eff) (g1 : G), call prog cst (n + 3) "_law_effects" true [W.pd] g = some (.sh (.tuple (fs.map Eff.d)), g1) ∧ (∀ f ∈ fs, EffOk W f) ∧ fs.length ≤ 3 := by
  have h1 := h.r1
  have h2 := h.r4
  have h3 := h.t4
  have hfl := free_len (W := W)
  obtain ⟨i, g1, ht1, hi⟩ := c_take (n + 1) g (m := 2) (by omega) (by omega)
  have ht1 : call prog cst (n + 2) "_law_take" true [.int 2] g = some (.sh (.int i), g1) := ht1
  rw [u_law_effects]
  simp_arith [F_law_effects, kLi_eq]
  rw [free_e h rfl (by simp) rfl]
  simp_arith [kCa_g0, ht1, nat_1, kR1i (show 1 + i ≤ 16777216 by omega)]
  rw [kFo_eq share_ow itL]
  generalize hF : forLoop _ _ ((List.range (1 + i)).map intD) _ g1 = F
  obtain ⟨ρ1, g2, rfl, fs, y4, y5, rfl, hlen, hok⟩ := fo_invF intD hF
    (fun zs ρ g => ∃ (fs : List Eff) (y4 y5 : Option Vl), ρ = [some .gen, some (.sh W.pd), some (.ow (fs.map Eff.d)), some (.sh (.list ((freeL W).map intD))), y4, y5] ∧ fs.length = zs.length ∧ ∀ f ∈ fs, EffOk W f)
    ⟨[], none, none, rfl, rfl, fun _ h => (List.not_mem_nil h).elim⟩ (by
    rintro zs x ρ g2 hx hpre ⟨fs, y4, y5, rfl, hlen, hok⟩
    have hzl := hpre.length_le
    rw [List.length_append, List.length_singleton, List.length_range] at hzl
    refine ⟨[some .gen, some (.sh W.pd), some (.ow (fs.map Eff.d)), some (.sh (.list ((freeL W).map intD))), some (.sh (.int x)), y5], rfl, ?_⟩
    obtain ⟨k, g3, ht2, hk⟩ := c_take (n + 1) g2 (m := 6) (by omega) (by omega)
    have ht2 : call prog cst (n + 2) "_law_take" true [.int 6] g2 = some (.sh (.int k), g3) := ht2
    have fin : ∀ {f : Eff}, EffOk W f → ∀ {ρ2 : Env}, ρ2 = [some .gen, some (.sh W.pd), some (.ow (fs.map Eff.d ++ [f.d])), some (.sh (.list ((freeL W).map intD))), some (.sh (.int x)), some (.sh (.int k))] → ∀ g4 : G,
        ∃ ρ3 g5, some (Out.nx, ρ2, g4) = some (Out.nx, ρ3, g5) ∧ ∃ (fs : List Eff) (y4 y5 : Option Vl), ρ3 = [some .gen, some (.sh W.pd), some (.ow (fs.map Eff.d)), some (.sh (.list ((freeL W).map intD))), y4, y5] ∧ fs.length = (zs ++ [x]).length ∧ ∀ f ∈ fs, EffOk W f := by
      intro f hf ρ2 hρ g4
      subst hρ
      refine ⟨_, g4, rfl, fs ++ [f], some (.sh (.int x)), some (.sh (.int k)), by rw [List.map_append]; rfl, by rw [List.length_append, List.length_append, hlen]; rfl, ?_⟩
      intro b hb
      rcases List.mem_append.mp hb with hb | hb
      · exact hok b hb
      · cases List.mem_singleton.mp hb
        exact hf
    have hsl : (fs.map Eff.d).length < sizeLine := by rw [List.length_map, sizeLine_eq]; omega
    simp_arith [kCa_g0, ht2]
    rw [kAn_b (y := !((freeL W).map intD).isEmpty) (by simp_arith [kLi_eq, eqD_lnil'])]
    simp_arith []
    cases hb : (decide ((k : Int) = 0) && !((freeL W).map intD).isEmpty) with
    | true =>
      rw [Bool.and_eq_true] at hb
      have hpos : 1 ≤ (freeL W).length := by
        cases hf : freeL W with
        | nil => rw [hf] at hb; exact absurd hb.2 (by simp)
        | cons _ _ => simp
      obtain ⟨t, htm, g4, hp1⟩ := c_pickM intD n g3 (xs := freeL W) hpos (by omega)
      obtain ⟨p, hp, g5, hp2⟩ := c_pickM Place.d n g4 (xs := [.room 0, .held, .gone]) (by simp) (by simp)
      have hp2 : call prog cst (n + 2) "_law_pick" true [.list [.tuple [.str "room", .int 0], .tuple [.str "held"], .tuple [.str "gone"]]] g4 = some (.sh p.d, g5) := hp2
      simp_arith [kCa_g0, kLi_eq, hp1, hp2, if_pos hsl]
      refine fin (f := .bring t p) ⟨free_mem htm, ?_⟩ rfl g5
      simp only [List.mem_cons, List.not_mem_nil, or_false] at hp
      rcases hp with rfl | rfl | rfl
      · show 0 < W.rooms.length; omega
      · exact True.intro
      · exact True.intro
    | false =>
      simp_arith []
      rw [kAn_b (y := !(W.doors.map Door.d).isEmpty) (by simp_arith [Q3, eqD_tnil'])]
      simp_arith []
      cases hd : (decide ((k : Int) = 1) && !(W.doors.map Door.d).isEmpty) with
      | true =>
        rw [Bool.and_eq_true] at hd
        obtain ⟨v, hv, g4, hp1⟩ := c_pickM (fun v => PyData.str (lockS v)) n g3 (xs := LS.all) (by decide +kernel) (by decide +kernel)
        have hp1 : call prog cst (n + 2) "_law_pick" true [.list [.str "open", .str "close", .str "lock"]] g3 = some (.sh (.str (lockS v)), g4) := hp1
        simp_arith [kCa_g0, kLi_eq, hp1, if_pos hsl]
        refine fin (f := .lock v (.door 0)) ?_ rfl g4
        show 0 < W.doors.length
        cases hf : W.doors with
        | nil => rw [hf] at hd; exact absurd hd.2 (by simp)
        | cons _ _ => simp
      | false =>
        simp_arith []
        cases decide ((k : Int) = 2) with
        | true =>
          obtain ⟨b, hb, g4, hp1⟩ := c_pickM (fun b => PyData.str (onS b)) n g3 (xs := [true, false]) (by decide +kernel) (by decide +kernel)
          have hp1 : call prog cst (n + 2) "_law_pick" true [.list [.str "on", .str "off"]] g3 = some (.sh (.str (onS b)), g4) := hp1
          simp_arith [kCa_g0, kLi_eq, hp1, if_pos hsl]
          exact fin (f := .mark b 0) rfl rfl g4
        | false =>
          simp_arith []
          cases decide ((k : Int) = 3) with
          | true =>
            simp_arith [if_pos hsl]
            exact fin (f := .less 0) rfl rfl g3
          | false =>
            obtain ⟨f, hf, g4, hp1⟩ := c_pickM Eff.d n g3 (xs := sayP) (by decide +kernel) (by decide +kernel)
            have hp1 : call prog cst (n + 2) "_law_pick" true [.list [.tuple [.str "say", .tuple [.str "ding"]], .tuple [.str "say", .tuple [.str "oh", .str "no"]], .tuple [.str "go", .int 0]]] g3 = some (.sh f.d, g4) := hp1
            simp_arith [kCa_g0, kLi_eq, hp1, if_pos hsl]
            refine fin (f := f) ?_ rfl g4
            simp only [sayP, List.mem_cons, List.not_mem_nil, or_false] at hf
            rcases hf with rfl | rfl | rfl
            · exact True.intro
            · exact True.intro
            · show 0 < W.rooms.length; omega)
  rw [List.length_range] at hlen
  simp_arith [tup_lst]
  exact ⟨fs, g2, rfl, hok, by omega⟩
end
end Pu.Tw
set_option Elab.async false
set_option maxRecDepth 100000
set_option maxHeartbeats 8000000
set_option linter.all false
/-! M27: worlds drawn. -/
namespace Pu.Tw
open PySem L2 Pu.St
local macro_rules | `(tactic| simp_arith [$ls,*] $[$loc]?) => `(tactic| simp only [ev_nil, ev_cons, kC1_eq, kC0_eq, kC2_eq, ev_nm, nmV_eq, ev_int, ev_str, ev_bl, ev_non, ev_gl, ev_tu, ev_li, kLi_eq, kB1_eq, kB0_eq, kB2_eq, ev_bi, ev_cm, fBi_eq, fCm_eq, ev_ch, fCh_eq, kCh_t, kCh_f, ev_neg, kNeg_eq, ev_an, ev_or, kAn_t, kAn_f, kOr_t, kOr_f, ev_no, kNo_eq, evT_eq, kT_eq, kT_ow, ev_ie, kIe_t, kIe_f, ev_ix, kIx_eq, kIx2_sh, kIx2_bw, kIx2_ow, kIx2_od, kIx2_bd, ev_sl, kSl_eq, kSl0_eq, kSl1_eq, kSl2_eq, pO_nil, pO_int, pO_nm, pO_bi, pO_ix, pO_bf, kPO_eq, ev_ca, kCa_n, evR_nil, evR_cons, kR1_eq, kR0_eq, ev_bf, kBf_eq, ev_me, kMe_eq, kMe2_eq, ev_isi, kIsi_sh, ev_r1, ev_l1, ev_r2, kR2r_eq, ex_nop, ex_seq, kS_nx, kS_rt, kS_br, kS_ct, ex_as, kAs_sh, kAs_ow, kAs_od, ex_par, evP_nil, evP_cons, kP1_eq, kP0_eq, ex_up, ex_if, kIf_t, kIf_f, ex_re, kRe_sh, kRe_ow, kRe_bw, ex_ap, ex_ex, ex_fz, fzV_ow, fzV_sh, kAp_sh, kAp_ow, apV_ow, kEx_ow, kEx_bw, exV_ow, ex_fo, ex_rn, share_sh, share_ow, rd_sh, rd_ow, rd_bw, bo_sh, bo_ow, bo_od, keep_sh, keep_ow, lst_ow, lst_bw, kF_rt, kF_nx, List.getElem?_cons_zero, List.getElem?_cons_succ, Option.bind_some, Option.map_some, List.set_cons_zero, List.set_cons_succ, String.reduceEq, decide_false, decide_true, Bool.not_true, Bool.not_false, cm_eq, cm_ne, cm_in, cm_nin, cm_is, cm_isn, eqD_str, eqD_str', eqD_int, eqD_int', eqv_str, eqv_int, ofString_inj, in_tup, in_lst, ix_0, ix_1, ix_2, ix_map, ix_mapL, W1, W2, W3, W4, W5, W6, W7, W8, W9, W10, W11, W12, S0, S1, S2, S3, S4, S5, S6, T2, T3, T4, D1, D3, D4, D5, len_tup, len_lst, bi_add, Kind.eq_box, Kind.eq_lamp, Kind.eq_thing, Kind.eq_fixed, LS.eq, LS.eq_open, LS.eq_closed, LS.eq_locked, lit_eq, on_eq, wipeE, Tg.slots, bindTg, Place.eqD, Place.eqv, Lock.eqv, List.any_cons, List.any_nil, z0, z1, cm_lt, cm_le, cm_gt, cm_ge, bi_sub, Int.natCast_inj, $ls,*] $[$loc]?)

def hallN : List Str := ["hall", "cave", "yard", "loft"]
section
variable {W V : World} {S T : State} {g : G} {n m : Nat}
theorem kind_congr (h : W.things = V.things) {k : Nat} : kindAt W k = kindAt V k := by unfold kindAt; rw [h]
theorem lockOk_congr (h1 : W.things = V.things) (h2 : W.doors = V.doors) {l : Lock} (h : LockOk W l) : LockOk V l := by
  cases l with
  | door k => show k < V.doors.length; rw [← h2]; exact h
  | box b => show kindAt V b = some .box; rw [← kind_congr h1]; exact h
theorem cond_congr (h1 : W.things = V.things) (h2 : W.doors = V.doors) : ∀ {c : Cond}, CondOk W c → CondOk V c
  | .always, _ => True.intro
  | .never, _ => True.intro
  | .not c, h => cond_congr (c := c) h1 h2 h
  | .and a b, h => ⟨cond_congr (c := a) h1 h2 h.1, cond_congr (c := b) h1 h2 h.2⟩
  | .or a b, h => ⟨cond_congr (c := a) h1 h2 h.1, cond_congr (c := b) h1 h2 h.2⟩
  | .at_ _, _ => True.intro
  | .has t, h => by show t < V.things.length; rw [← h1]; exact h
  | .lies t _, h => by show t < V.things.length; rw [← h1]; exact h
  | .open_ l, h => lockOk_congr (l := l) h1 h2 h
  | .lit t, h => by show kindAt V t = some .lamp; rw [← kind_congr h1]; exact h
  | .mark k, h => h
  | .lt k _, h => h
theorem effOk_congr (h1 : W.things = V.things) (h2 : W.doors = V.doors) (h3 : W.rooms = V.rooms) {f : Eff} (h : EffOk W f) : EffOk V f := by
  cases f with
  | bring t p =>
    refine ⟨?_, ?_⟩
    · have := h.1
      unfold MovOk at this ⊢
      rw [← kind_congr h1]
      exact this
    · have := h.2
      cases p with
      | held => exact True.intro
      | gone => exact True.intro
      | room r => show r < V.rooms.length; rw [← h3]; exact this
      | box b => show kindAt V b = some .box; rw [← kind_congr h1]; exact this
  | lock v l => exact lockOk_congr h1 h2 h
  | mark b k => exact h
  | less k => exact h
  | say ws => exact True.intro
  | go r => show r < V.rooms.length; rw [← h3]; exact h
def kRq (ds : List D) (q : Vl × G) : Option (Vl × G) := match q.1 with
  | .sh (.int k) => if -9223372036854775808 ≤ k ∧ k < 9223372036854775808 ∧ ds.length * k.toNat ≤ sizeLine then some (.ow (rep k.toNat ds), q.2) else none
  | _ => none
theorem kRp_sh {c : Cf} {a : E} {ρ : Env} {ds : List D} {g1 : G} : kRp c a ρ (.sh (.tuple ds), g1) = (ev c a ρ g1).bind (kRq ds) := by
  have z : kRp c a ρ (.sh (.tuple ds), g1) = (ev c a ρ g1).bind (kRq ds) := rfl
  exact z
theorem kRq_1 {ds : List D} {g1 : G} {k : Int} : kRq ds (.sh (.int k), g1) = if -9223372036854775808 ≤ k ∧ k < 9223372036854775808 ∧ ds.length * k.toNat ≤ sizeLine then some (.ow (rep k.toNat ds), g1) else none := by
  unfold kRq
  dsimp only
theorem kRq_2 {ds : List D} {g1 : G} {k : Int} (h : -9223372036854775808 ≤ k ∧ k < 9223372036854775808 ∧ ds.length * k.toNat ≤ sizeLine) : kRq ds (.sh (.int k), g1) = some (.ow (rep k.toNat ds), g1) := by
  rw [kRq_1, if_pos h]
theorem kRq_eq {ds : List D} {g1 : G} {k : Nat} (h : ds.length * k ≤ sizeLine) (hk : k ≤ 1000) : kRq ds (.sh (.int k), g1) = some (.ow (rep k ds), g1) := by
  have z := kRq_2 (ds := ds) (g1 := g1) (k := (k : Int)) ⟨by omega, by omega, by rw [Int.toNat_natCast]; exact h⟩
  rw [Int.toNat_natCast] at z
  exact z
theorem kRp_eq {c : Cf} {a : E} {ρ : Env} {ds : List D} {g1 g2 : G} {k : Nat} (ha : ev c a ρ g1 = some (.sh (.int k), g2)) (h : ds.length * k ≤ sizeLine) (hk : k ≤ 1000) : kRp c a ρ (.sh (.tuple ds), g1) = some (.ow (rep k ds), g2) := by
  rw [kRp_sh, ha, Option.bind_some, kRq_eq h hk]
theorem rep_1 {x : D} {k : Nat} : rep k [x] = List.replicate k x := by
  unfold rep
  rw [List.flatten_replicate_singleton]
theorem kUp_2 {a b : Nat} {ρ : Env} {x y : D} {g1 : G} : kUp [a, b] ρ (.sh (.tuple [x, y]), g1) = some (.nx, (ρ.set a (some (.sh x))).set b (some (.sh y)), g1) := rfl
theorem nat_2 {i : Nat} : (2 : Int) + (i : Int) = ((2 + i : Nat) : Int) := by omega
theorem c_tk {N : Nat} (hN : 0 < N) (g : G) {m : Nat} {mi : Int} (he : mi = (m : Int)) (h1 : 1 ≤ m) (h2 : m ≤ 1000) : ∃ (i : Nat) (g1 : G), call K04.prog K04.cst N "_law_take" true [.int mi] g = some (.sh (.int i), g1) ∧ i < m := by
  subst he
  obtain ⟨k, rfl⟩ := Nat.exists_eq_succ_of_ne_zero (Nat.ne_of_gt hN)
  exact c_take k g h1 h2
def vbD (v : Str) : D := .str v
def worldTl : Pu.S := (.seq (.as_ 11 (.li .nil)) (.seq (.fo (.nm 12) (.ca "_law_some" (some 0) (.cons (.li (.cons (.str "ring") (.cons (.str "rub") (.cons (.str "sing") .nil)))) (.cons (.ca "_law_take" (some 0) (.cons (.int 3) .nil)) .nil))) (.seq (.as_ 17 (.ie (.an (.cm .ne (.nm 6) (.li .nil)) (.cm .eq (.ca "_law_take" (some 0) (.cons (.int 2) .nil)) (.int 0))) (.ca "_law_take" (some 0) (.cons (.bf .len (.cons (.nm 6) .nil)) .nil)) .non)) (.seq (.ap 11 (.tu (.cons (.nm 12) (.cons (.nm 17) (.cons (.ca "_law_condition" (some 0) (.cons (.nm 10) (.cons (.int 0) .nil))) (.cons (.ca "_law_effects" (some 0) (.cons (.nm 10) .nil)) .nil)))))) .nop))) (.seq (.as_ 13 (.lc (.nm 18) (.r1 (.ca "_law_take" (some 0) (.cons (.int 2) .nil))) (.bl true) (.tu (.cons (.ca "_law_condition" (some 0) (.cons (.nm 10) (.cons (.int 0) .nil))) (.cons (.ca "_law_effects" (some 0) (.cons (.nm 10) .nil)) .nil))))) (.seq (.fz 13) (.seq (.as_ 14 (.ie (.cm .gt (.ca "_law_take" (some 0) (.cons (.int 3) .nil)) (.int 0)) (.tu (.cons (.str "never") .nil)) (.ca "_law_single" (some 0) (.cons (.nm 10) .nil)))) (.seq (.fz 14) (.seq (.re (.bi .add (.nm 10) (.tu (.cons (.bf .tuple (.cons (.nm 11) .nil)) (.cons (.bf .tuple (.cons (.nm 13) .nil)) (.cons (.ca "_law_take" (some 0) (.cons (.nm 3) .nil)) (.cons (.ca "_law_condition" (some 0) (.cons (.nm 10) (.cons (.int 1) .nil))) (.cons (.nm 14) .nil)))))))) .nop)))))))
open K04 in
/-- own deeds, afters, the ends: what comes behind the eighth part -/
theorem world_tail (h : Half W) (hr : W.rooms.length = m) (g : G) {x1 x2 x4 x5 x7 x8 x9 x15 x16 : Option Vl} : ∃ (V : World) (ρ' : Env) (g1 : G),
    ex ⟨call prog cst (n + 6), cst⟩ worldTl [some .gen, x1, x2, some (.sh (.int m)), x4, x5, some (.sh (.list (W.things.map Thing.d))), x7, x8, x9, some (.sh W.pd), none, none, none, none, x15, x16, none, none, none] g = some (.rt (.sh V.d), ρ', g1) ∧
    (V.rooms = W.rooms ∧ V.ways = W.ways ∧ V.doors = W.doors ∧ V.things = W.things ∧ V.keys = W.keys ∧ V.mark0 = W.mark0 ∧ V.count0 = W.count0) ∧
    (∀ r ∈ V.deeds, RuleOk W r) ∧ V.deeds.length ≤ 10 ∧ (∀ a ∈ V.afters, CondOk W a.1 ∧ a.1.ht ≤ 4 ∧ (∀ f ∈ a.2, EffOk W f) ∧ a.2.length ≤ 3) ∧ V.afters.length ≤ 10 ∧ V.start < W.rooms.length ∧ (CondOk W V.win ∧ V.win.ht ≤ 4) ∧ CondOk W V.lose ∧ V.lose.ht ≤ 4 := by
  have h1 := h.r1
  have h4 := h.r4
  have ht4 := h.t4
  unfold worldTl
  obtain ⟨k, g1, ht1, hk⟩ := c_tk (N := n + 6) (by omega) g (m := 3) (mi := 3) (by decide) (by omega) (by omega)
  obtain ⟨vs, g2, hs, hvl⟩ := c_some (n := n + 3) g1 (xs := ["ring", "rub", "sing"]) (k := k) (by decide +kernel) (by decide +kernel)
  have hs : call prog cst (n + 6) "_law_some" true [.list [.str "ring", .str "rub", .str "sing"], .int k] g1 = some (.ow (vs.map .str), g2) := hs
  simp_arith [kCa_g0, ht1, hs]
  rw [kFo_eq share_ow itL]
  generalize hF : forLoop _ _ (vs.map PyData.str) _ g2 = F
  obtain ⟨ρ1, g3, rfl, rs, y12, y17, rfl, hrl, hro⟩ := fo_invF PyData.str hF
    (fun zs ρ g => ∃ (rs : List Rule) (y12 y17 : Option Vl), ρ = [some .gen, x1, x2, some (.sh (.int m)), x4, x5, some (.sh (.list (W.things.map Thing.d))), x7, x8, x9, some (.sh W.pd), some (.ow (rs.map Rule.d)), y12, none, none, x15, x16, y17, none, none] ∧ rs.length = zs.length ∧ ∀ r ∈ rs, RuleOk W r)
    ⟨[], none, none, rfl, rfl, fun _ h => (List.not_mem_nil h).elim⟩ (by
    rintro zs v ρ g2 hv hpre ⟨rs, y12, y17, rfl, hrl, hro⟩
    have hzl := hpre.length_le
    rw [List.length_append, List.length_singleton] at hzl
    refine ⟨[some .gen, x1, x2, some (.sh (.int m)), x4, x5, some (.sh (.list (W.things.map Thing.d))), x7, x8, x9, some (.sh W.pd), some (.ow (rs.map Rule.d)), some (.sh (.str v)), none, none, x15, x16, y17, none, none], rfl, ?_⟩
    have hth : ∃ (t : Option Nat) (g3 : G), ev ⟨call prog cst (n + 6), cst⟩ (.ie (.an (.cm .ne (.nm 6) (.li .nil)) (.cm .eq (.ca "_law_take" (some 0) (.cons (.int 2) .nil)) (.int 0))) (.ca "_law_take" (some 0) (.cons (.bf .len (.cons (.nm 6) .nil)) .nil)) .non) [some .gen, x1, x2, some (.sh (.int m)), x4, x5, some (.sh (.list (W.things.map Thing.d))), x7, x8, x9, some (.sh W.pd), some (.ow (rs.map Rule.d)), some (.sh (.str v)), none, none, x15, x16, y17, none, none] g2 = some (.sh (optD t), g3) ∧ ∀ k, t = some k → k < W.things.length := by
      simp_arith [eqD_lnil']
      cases hW : W.things with
      | nil =>
        simp_arith [List.map_nil, List.isEmpty_nil]
        exact ⟨none, g2, rfl, fun k hk => by cases hk⟩
      | cons a as =>
        obtain ⟨i, g3, ht2, hi⟩ := c_tk (N := n + 6) (by omega) g2 (m := 2) (mi := 2) (by decide) (by omega) (by omega)
        simp_arith [List.map_cons, List.isEmpty_cons, kCa_g0, ht2]
        cases decide ((i : Int) = 0) with
        | true =>
          obtain ⟨j, g4, ht3, hj⟩ := c_tk (N := n + 6) (by omega) g3 (m := (a :: as).length) (mi := ((a.d :: as.map Thing.d).length : Nat)) (by simp) (by simp) (by rw [← hW]; omega)
          simp_arith [ht3, kCa_g0]
          exact ⟨some j, g4, rfl, fun k hk => by cases hk; exact hj⟩
        | false =>
          simp_arith []
          exact ⟨none, g3, rfl, fun k hk => by cases hk⟩
    obtain ⟨t, g3, hth, htl⟩ := hth
    obtain ⟨cd, g4, hcd, hco, hch⟩ := cond_0 (n := n) h g3
    obtain ⟨fs, g5, hfs, hfo, hfl⟩ := g_effects (n := n + 3) h g4
    have hfs : call prog cst (n + 6) "_law_effects" true [W.pd] g4 = some (.sh (.tuple (fs.map Eff.d)), g5) := hfs
    rw [ex_seq, ex_as, hth]
    simp_arith [kCa_g0, hcd, hfs]
    rw [if_pos (by rw [List.length_map, sizeLine_eq]; omega)]
    refine ⟨_, _, rfl, rs ++ [⟨v, t, cd, fs⟩], some (.sh (.str v)), some (.sh (optD t)), by rw [List.map_append]; rfl, by rw [List.length_append, List.length_append, hrl]; rfl, ?_⟩
    intro r hr
    rcases List.mem_append.mp hr with hr | hr
    · exact hro r hr
    · cases List.mem_singleton.mp hr
      exact ⟨htl, hco, by show cd.ht ≤ 4; omega, hfo, hfl⟩)
  simp_arith []
  generalize hlc : ev _ (.lc _ _ _ _) _ g3 = R
  obtain ⟨ka, g4, ht4', hka⟩ := c_tk (N := n + 6) (by omega) g3 (m := 2) (mi := 2) (by decide) (by omega) (by omega)
  obtain ⟨af, g5, rfl, hafo, hafl⟩ := ev_lcn (α := Nat) (β := Cond × List Eff) intD afterD (fun a => CondOk W a.1 ∧ a.1.ht ≤ 4 ∧ (∀ f ∈ a.2, EffOk W f) ∧ a.2.length ≤ 3) hlc (xs := List.range ka) (vi := .ow ((List.range ka).map intD)) (g1 := g4) (by simp_arith [kCa_g0, ht4', kR1i (show ka ≤ 16777216 by omega)]) rfl (by
    intro k hk g5
    obtain ⟨cd, g6, hcd, hco, hch⟩ := cond_0 (n := n) h g5
    obtain ⟨fs, g7, hfs, hfo, hfl⟩ := g_effects (n := n + 3) h g6
    have hfs : call prog cst (n + 6) "_law_effects" true [W.pd] g6 = some (.sh (.tuple (fs.map Eff.d)), g7) := hfs
    refine ⟨_, rfl, ?_⟩
    simp_arith [kCa_g0, hcd, hfs]
    exact ⟨_, (cd, fs), g7, rfl, rfl, hco, by show cd.ht ≤ 4; omega, hfo, hfl⟩)
  have hlose : ∃ (lc : Cond) (g6 : G), ev ⟨call prog cst (n + 6), cst⟩ (.ie (.cm .gt (.ca "_law_take" (some 0) (.cons (.int 3) .nil)) (.int 0)) (.tu (.cons (.str "never") .nil)) (.ca "_law_single" (some 0) (.cons (.nm 10) .nil))) [some .gen, x1, x2, some (.sh (.int m)), x4, x5, some (.sh (.list (W.things.map Thing.d))), x7, x8, x9, some (.sh W.pd), some (.ow (rs.map Rule.d)), y12, some (.sh (.list (af.map afterD))), none, x15, x16, y17, none, none] g5 = some (.sh lc.d, g6) ∧ CondOk W lc ∧ lc.ht ≤ 4 := by
    obtain ⟨i, g6, ht5, hi⟩ := c_tk (N := n + 6) (by omega) g5 (m := 3) (mi := 3) (by decide) (by omega) (by omega)
    simp_arith [kCa_g0, ht5]
    cases decide ((0 : Int) < (i : Int)) with
    | true =>
      simp_arith []
      exact ⟨.never, g6, rfl, True.intro, by decide⟩
    | false =>
      obtain ⟨c, g7, hc, hco, hch⟩ := g_single (n := n + 3) h g6
      have hc : call prog cst (n + 6) "_law_single" true [W.pd] g6 = some (.sh c.d, g7) := hc
      simp_arith [kCa_g0, hc]
      exact ⟨c, g7, rfl, hco, by omega⟩
  obtain ⟨lc, g6, hlc2, hlo, hlh⟩ := hlose
  obtain ⟨st, g7, ht6, hst⟩ := c_tk (N := n + 6) (by omega) g6 (m := m) (mi := m) rfl (by omega) (by omega)
  obtain ⟨wc, g8, hwc, hwo, hwh⟩ := cond_1 (n := n + 1) h g7
  have hwc : call prog cst (n + 6) "_law_condition" true [W.pd, .int 1] g7 = some (.sh wc.d, g8) := hwc
  have hadd : binD .add W.pd (.tuple [.tuple (rs.map Rule.d), .tuple (af.map afterD), .int st, wc.d, lc.d]) = some (.sh (World.d ⟨W.rooms, W.ways, W.doors, W.things, W.keys, W.mark0, W.count0, rs, af, st, wc, lc⟩)) := by
    unfold World.pd
    rw [bi_addTs (by simp only [List.length_cons, List.length_nil]; omega)]
    rfl
  simp_arith [↓hlc2, kCa_g0, ht6, hwc, tup_lst, hadd]
  refine ⟨⟨W.rooms, W.ways, W.doors, W.things, W.keys, W.mark0, W.count0, rs, af, st, wc, lc⟩, _, g8, rfl, ⟨rfl, rfl, rfl, rfl, rfl, rfl, rfl⟩, hro, ?_, hafo, ?_, by rw [hr]; exact hst, ⟨hwo, by show wc.ht ≤ 4; omega⟩, hlo, hlh⟩
  · show rs.length ≤ 10
    omega
  · show af.length ≤ 10
    rw [hafl, List.length_range]
    omega
end
end Pu.Tw
set_option Elab.async false
set_option maxRecDepth 100000
set_option maxHeartbeats 8000000
set_option linter.all false
/-! M28: worlds drawn, whole. -/
namespace Pu.Tw
open PySem L2 Pu.St
local macro_rules | `(tactic| simp_arith [$ls,*] $[$loc]?) => `(tactic| simp only [ev_nil, ev_cons, kC1_eq, kC0_eq, kC2_eq, ev_nm, nmV_eq, ev_int, ev_str, ev_bl, ev_non, ev_gl, ev_tu, ev_li, kLi_eq, kB1_eq, kB0_eq, kB2_eq, ev_bi, ev_cm, fBi_eq, fCm_eq, ev_ch, fCh_eq, kCh_t, kCh_f, ev_neg, kNeg_eq, ev_an, ev_or, kAn_t, kAn_f, kOr_t, kOr_f, ev_no, kNo_eq, evT_eq, kT_eq, kT_ow, ev_ie, kIe_t, kIe_f, ev_ix, kIx_eq, kIx2_sh, kIx2_bw, kIx2_ow, kIx2_od, kIx2_bd, ev_sl, kSl_eq, kSl0_eq, kSl1_eq, kSl2_eq, pO_nil, pO_int, pO_nm, pO_bi, pO_ix, pO_bf, kPO_eq, ev_ca, kCa_n, evR_nil, evR_cons, kR1_eq, kR0_eq, ev_bf, kBf_eq, ev_me, kMe_eq, kMe2_eq, ev_isi, kIsi_sh, ev_r1, ev_l1, ev_r2, kR2r_eq, ex_nop, ex_seq, kS_nx, kS_rt, kS_br, kS_ct, ex_as, kAs_sh, kAs_ow, kAs_od, ex_par, evP_nil, evP_cons, kP1_eq, kP0_eq, ex_up, ex_if, kIf_t, kIf_f, ex_re, kRe_sh, kRe_ow, kRe_bw, ex_ap, ex_ex, ex_fz, fzV_ow, fzV_sh, kAp_sh, kAp_ow, apV_ow, kEx_ow, kEx_bw, exV_ow, ex_fo, ex_rn, share_sh, share_ow, rd_sh, rd_ow, rd_bw, bo_sh, bo_ow, bo_od, keep_sh, keep_ow, lst_ow, lst_bw, kF_rt, kF_nx, List.getElem?_cons_zero, List.getElem?_cons_succ, Option.bind_some, Option.map_some, List.set_cons_zero, List.set_cons_succ, String.reduceEq, decide_false, decide_true, Bool.not_true, Bool.not_false, cm_eq, cm_ne, cm_in, cm_nin, cm_is, cm_isn, eqD_str, eqD_str', eqD_int, eqD_int', eqv_str, eqv_int, ofString_inj, in_tup, in_lst, ix_0, ix_1, ix_2, ix_map, ix_mapL, W1, W2, W3, W4, W5, W6, W7, W8, W9, W10, W11, W12, S0, S1, S2, S3, S4, S5, S6, T2, T3, T4, D1, D3, D4, D5, len_tup, len_lst, bi_add, Kind.eq_box, Kind.eq_lamp, Kind.eq_thing, Kind.eq_fixed, LS.eq, LS.eq_open, LS.eq_closed, LS.eq_locked, lit_eq, on_eq, wipeE, Tg.slots, bindTg, Place.eqD, Place.eqv, Lock.eqv, List.any_cons, List.any_nil, z0, z1, cm_lt, cm_le, cm_gt, cm_ge, bi_sub, Int.natCast_inj, $ls,*] $[$loc]?)

section
variable {W V : World} {S T : State} {g : G} {n m : Nat}

open K04 in
/-- the rooms -/
theorem rooms_e (g2 : G) {m : Nat} (h4 : m ≤ 4) {ways : List (Nat × Str × Nat)} {doors : List Door} : ∃ (rs : List (Str × Bool)) (g3 : G), ev ⟨call prog cst (n + 6), cst⟩ (.lc (.nm 18) (.r1 (.nm 3)) (.bl true) (.tu (.cons (.ix (.nm 4) (.nm 18)) (.cons (.ie (.cm .eq (.ca "_law_take" (some 0) (.cons (.int 5) .nil)) (.int 0)) (.str "dark") (.str "light")) .nil)))) [some .gen, some (.sh (.int 4)), some (.sh (.int 3)), some (.sh (.int m)), some (.sh (.list [.str "hall", .str "cave", .str "yard", .str "loft"])), none, none, none, none, none, none, none, none, none, none, some (.sh (.list (ways.map wayD))), some (.sh (.list (doors.map Door.d))), none, none, none] g2 = some (.ow (rs.map roomD), g3) ∧ rs.length = m := by
  generalize hlc : ev _ (.lc _ _ _ _) _ g2 = R
  obtain ⟨rs, g3, rfl, -, hrl⟩ := ev_lcn (α := Nat) (β := Str × Bool) intD roomD (fun _ => True) hlc (xs := List.range m) (vi := .ow ((List.range m).map intD)) (g1 := g2) (by simp_arith [kR1i (show m ≤ 16777216 by omega)]) rfl (by
    intro k hk g3
    have hk := List.mem_range.mp hk
    obtain ⟨nm, hnm⟩ : ∃ nm : Str, ixD (.list [.str "hall", .str "cave", .str "yard", .str "loft"]) (.int k) = some (.str nm) := by
      rw [at_natL]
      rcases k with _ | _ | _ | _ | k
      · exact ⟨_, rfl⟩
      · exact ⟨_, rfl⟩
      · exact ⟨_, rfl⟩
      · exact ⟨_, rfl⟩
      · omega
    obtain ⟨i, g4, ht2, hi⟩ := c_tk (N := n + 6) (by omega) g3 (m := 5) (mi := 5) (by decide) (by omega) (by omega)
    refine ⟨_, rfl, ?_⟩
    simp_arith [intD, hnm, kCa_g0, ht2]
    cases decide ((i : Int) = 0) with
    | true =>
      simp_arith []
      exact ⟨_, (nm, false), g4, rfl, rfl, True.intro⟩
    | false =>
      simp_arith []
      exact ⟨_, (nm, true), g4, rfl, rfl, True.intro⟩)
  exact ⟨rs, g3, rfl, by rw [hrl, List.length_range]⟩
open K04 in
theorem world_a (g : G) : ∃ (m : Nat) (rs : List (Str × Bool)) (ways : List (Nat × Str × Nat)) (doors : List Door) (ts : List Thing) (g1 : G),
    (∀ rest : Pu.S, ex ⟨call prog cst (n + 6), cst⟩ (.seq (.as_ 3 (.bi .add (.int 2) (.ca "_law_take" (some 0) (.cons (.bi .sub (.nm 1) (.int 1)) .nil)))) (.seq (.up [15, 16] (.ca "_law_ways" (some 0) (.cons (.nm 3) .nil))) (.seq (.as_ 4 (.li (.cons (.str "hall") (.cons (.str "cave") (.cons (.str "yard") (.cons (.str "loft") .nil)))))) (.seq (.fz 4) (.seq (.as_ 5 (.bf .tuple (.cons (.lc (.nm 18) (.r1 (.nm 3)) (.bl true) (.tu (.cons (.ix (.nm 4) (.nm 18)) (.cons (.ie (.cm .eq (.ca "_law_take" (some 0) (.cons (.int 5) .nil)) (.int 0)) (.str "dark") (.str "light")) .nil)))) .nil))) (.seq (.as_ 6 (.ca "_law_things" (some 0) (.cons (.nm 3) (.cons (.nm 2) .nil)))) (.seq (.fz 6) rest))))))) [some .gen, some (.sh (.int 4)), some (.sh (.int 3)), none, none, none, none, none, none, none, none, none, none, none, none, none, none, none, none, none] g = ex ⟨call prog cst (n + 6), cst⟩ rest [some .gen, some (.sh (.int 4)), some (.sh (.int 3)), some (.sh (.int m)), some (.sh (.list [.str "hall", .str "cave", .str "yard", .str "loft"])), some (.sh (.tuple (rs.map roomD))), some (.sh (.list (ts.map Thing.d))), none, none, none, none, none, none, none, none, some (.sh (.list (ways.map wayD))), some (.sh (.list (doors.map Door.d))), none, none, none] g1) ∧
    2 ≤ m ∧ m ≤ 4 ∧ rs.length = m ∧ WaysOk m ways doors ∧ ThOk m ts := by
  obtain ⟨i, g1, ht1, hi⟩ := c_tk (N := n + 6) (by omega) g (m := 3) (mi := 4 - 1) (by decide) (by omega) (by omega)
  obtain ⟨m, hm⟩ : ∃ m, m = 2 + i := ⟨_, rfl⟩
  have h2 : 2 ≤ m := by omega
  have h4 : m ≤ 4 := by omega
  obtain ⟨ways, doors, g2, hw, hwo⟩ := c_ways (n := n + 3) g1 h2 h4
  have hw : call prog cst (n + 6) "_law_ways" true [.int m] g1 = some (.sh (.tuple [.list (ways.map wayD), .list (doors.map Door.d)]), g2) := hw
  obtain ⟨rs, g3, hrs, hrl⟩ := rooms_e (n := n) g2 h4 (ways := ways) (doors := doors)
  obtain ⟨ts, g4, hts, htsl, htok⟩ := c_things (n := n + 3) g3 h2 h4
  have hts : call prog cst (n + 6) "_law_things" true [.int m, .int 3] g3 = some (.ow (ts.map Thing.d), g4) := hts
  refine ⟨m, rs, ways, doors, ts, g4, fun rest => ?_, h2, h4, hrl, hwo, htsl, htok⟩
  simp_arith [kCa_g0, ht1, nat_2, ← hm, hw, kUp_2, kLi_eq, hrs, tup_lst, hts]
open K04 in
/-- the locks, the free things -/
theorem world_b (g : G) {m : Nat} {rs : List (Str × Bool)} {ways : List (Nat × Str × Nat)} {doors : List Door} {ts : List Thing} (hd : doors.length ≤ 1) (htsl : ts.length ≤ 4) : ∃ (LK : List Lock) (fr : List Nat),
    (∀ rest : Pu.S, ex ⟨call prog cst (n + 6), cst⟩ (.seq (.as_ 7 (.bi .add (.rp (.cons (.tu (.cons (.str "door") (.cons (.int 0) .nil))) .nil) (.bf .len (.cons (.nm 16) .nil))) (.lc (.nm 18) (.r1 (.bf .len (.cons (.nm 6) .nil))) (.cm .eq (.ix (.ix (.nm 6) (.nm 18)) (.int 2)) (.str "box")) (.tu (.cons (.str "box") (.cons (.nm 18) .nil)))))) (.seq (.fz 7) (.seq (.as_ 8 (.lc (.nm 18) (.r1 (.bf .len (.cons (.nm 6) .nil))) (.cm .eq (.ix (.ix (.nm 6) (.nm 18)) (.int 2)) (.str "thing")) (.nm 18))) (.seq (.fz 8) rest)))) [some .gen, some (.sh (.int 4)), some (.sh (.int 3)), some (.sh (.int m)), some (.sh (.list [.str "hall", .str "cave", .str "yard", .str "loft"])), some (.sh (.tuple (rs.map roomD))), some (.sh (.list (ts.map Thing.d))), none, none, none, none, none, none, none, none, some (.sh (.list (ways.map wayD))), some (.sh (.list (doors.map Door.d))), none, none, none] g = ex ⟨call prog cst (n + 6), cst⟩ rest [some .gen, some (.sh (.int 4)), some (.sh (.int 3)), some (.sh (.int m)), some (.sh (.list [.str "hall", .str "cave", .str "yard", .str "loft"])), some (.sh (.tuple (rs.map roomD))), some (.sh (.list (ts.map Thing.d))), some (.sh (.list (LK.map Lock.d))), some (.sh (.list (fr.map intD))), none, none, none, none, none, none, some (.sh (.list (ways.map wayD))), some (.sh (.list (doors.map Door.d))), none, none, none] g) ∧ LK.length ≤ 5 ∧ fr.length ≤ 4 ∧ (∀ k ∈ fr, k < ts.length) ∧ ∀ l ∈ LK, (∃ b, l = .box b ∧ (ts[b]?).map Thing.kind = some .box) ∨ (l = .door 0 ∧ 0 < doors.length) := by
  obtain ⟨bx, hbx⟩ : ∃ bx, bx = (List.range ts.length).filter (fun k => decide ((ts[k]?).map Thing.kind = some .box)) := ⟨_, rfl⟩
  have hbxm : ∀ k ∈ bx, (ts[k]?).map Thing.kind = some .box := by
    intro k hk
    rw [hbx] at hk
    simpa using (List.mem_filter.mp hk).2
  have hbxl : bx.length ≤ 4 := by
    rw [hbx]
    exact Nat.le_trans (List.length_filter_le _ _) (by rw [List.length_range]; exact htsl)
  obtain ⟨fr, hfr⟩ : ∃ fr, fr = (List.range ts.length).filter (fun k => decide ((ts[k]?).map Thing.kind = some .thing)) := ⟨_, rfl⟩
  have hfrm : ∀ k ∈ fr, k < ts.length := by
    intro k hk
    rw [hfr] at hk
    exact List.mem_range.mp (List.mem_filter.mp hk).1
  have hfrl : fr.length ≤ 4 := by
    rw [hfr]
    exact Nat.le_trans (List.length_filter_le _ _) (by rw [List.length_range]; exact htsl)
  obtain ⟨LK, hLK⟩ : ∃ LK, LK = List.replicate doors.length (Lock.door 0) ++ bx.map Lock.box := ⟨_, rfl⟩
  have hLKd : List.replicate doors.length (Lock.door 0).d ++ bx.map (fun k => (Lock.box k).d) = LK.map Lock.d := by
    rw [hLK, List.map_append, List.map_replicate, List.map_map]
    rfl
  have hLKl : LK.length ≤ 5 := by
    rw [hLK, List.length_append, List.length_replicate, List.length_map]
    omega
  have hLKo : ∀ l ∈ LK, (∃ b, l = .box b ∧ (ts[b]?).map Thing.kind = some .box) ∨ (l = .door 0 ∧ 0 < doors.length) := by
    intro l hl
    rw [hLK] at hl
    rcases List.mem_append.mp hl with hl | hl
    · obtain ⟨h5, h6⟩ := List.mem_replicate.mp hl
      exact .inr ⟨h6, by omega⟩
    · obtain ⟨b, hb, rfl⟩ := List.mem_map.mp hl
      exact .inl ⟨b, rfl, hbxm b hb⟩
  have hadd : binD .add (.list (List.replicate doors.length (.tuple [.str "door", .int 0]))) (.list (bx.map fun k => (Lock.box k).d)) = some (.ow (LK.map Lock.d)) := by
    rw [bi_addLs (by rw [List.length_replicate, List.length_map]; omega), ← hLKd]
    rfl
  have hbxe : ∀ e7 : Option Vl, ev ⟨call prog cst (n + 6), cst⟩ (.lc (.nm 18) (.r1 (.bf .len (.cons (.nm 6) .nil))) (.cm .eq (.ix (.ix (.nm 6) (.nm 18)) (.int 2)) (.str "box")) (.tu (.cons (.str "box") (.cons (.nm 18) .nil)))) [some .gen, some (.sh (.int 4)), some (.sh (.int 3)), some (.sh (.int m)), some (.sh (.list [.str "hall", .str "cave", .str "yard", .str "loft"])), some (.sh (.tuple (rs.map roomD))), some (.sh (.list (ts.map Thing.d))), e7, none, none, none, none, none, none, none, some (.sh (.list (ways.map wayD))), some (.sh (.list (doors.map Door.d))), none, none, none] g = some (.ow (bx.map fun k => (Lock.box k).d), g) := by
    intro e7
    rw [hbx]
    refine ev_lc (α := Nat) intD (fun k => decide ((ts[k]?).map Thing.kind = some .box)) (fun k => (Lock.box k).d) (xs := List.range ts.length) (vi := .ow ((List.range ts.length).map intD)) ?_ rfl ?_
    · simp_arith [List.length_map, kR1i (show ts.length ≤ 16777216 by omega)]
    · intro k hk
      have hk := List.mem_range.mp hk
      obtain ⟨t, ht⟩ := get_some hk
      refine ⟨_, rfl, ?_, fun _ => ⟨_, rfl, rfl⟩⟩
      simp_arith [intD, ix_mapL, ht, Option.some.injEq]
  have hfre : ev ⟨call prog cst (n + 6), cst⟩ (.lc (.nm 18) (.r1 (.bf .len (.cons (.nm 6) .nil))) (.cm .eq (.ix (.ix (.nm 6) (.nm 18)) (.int 2)) (.str "thing")) (.nm 18)) [some .gen, some (.sh (.int 4)), some (.sh (.int 3)), some (.sh (.int m)), some (.sh (.list [.str "hall", .str "cave", .str "yard", .str "loft"])), some (.sh (.tuple (rs.map roomD))), some (.sh (.list (ts.map Thing.d))), some (.sh (.list (LK.map Lock.d))), none, none, none, none, none, none, none, some (.sh (.list (ways.map wayD))), some (.sh (.list (doors.map Door.d))), none, none, none] g = some (.ow (fr.map intD), g) := by
    rw [hfr]
    refine ev_lc (α := Nat) intD (fun k => decide ((ts[k]?).map Thing.kind = some .thing)) intD (xs := List.range ts.length) (vi := .ow ((List.range ts.length).map intD)) ?_ rfl ?_
    · simp_arith [List.length_map, kR1i (show ts.length ≤ 16777216 by omega)]
    · intro k hk
      have hk := List.mem_range.mp hk
      obtain ⟨t, ht⟩ := get_some hk
      refine ⟨_, rfl, ?_, fun _ => ⟨_, rfl, rfl⟩⟩
      simp_arith [intD, ix_mapL, ht, Option.some.injEq]
  have hrp : binD .add (.list (rep doors.length [.tuple [.str "door", .int 0]])) (.list (bx.map fun k => (Lock.box k).d)) = some (.ow (LK.map Lock.d)) := by
    rw [rep_1]; exact hadd
  refine ⟨LK, fr, fun rest => ?_, hLKl, hfrl, hfrm, hLKo⟩
  have e1 : ev ⟨call prog cst (n + 6), cst⟩ (.cons (.tu (.cons (.str "door") (.cons (.int 0) .nil))) .nil) [some .gen, some (.sh (.int 4)), some (.sh (.int 3)), some (.sh (.int m)), some (.sh (.list [.str "hall", .str "cave", .str "yard", .str "loft"])), some (.sh (.tuple (rs.map roomD))), some (.sh (.list (ts.map Thing.d))), none, none, none, none, none, none, none, none, some (.sh (.list (ways.map wayD))), some (.sh (.list (doors.map Door.d))), none, none, none] g = some (.sh (.tuple [.tuple [.str "door", .int 0]]), g) := by simp_arith []
  have e2 : ev ⟨call prog cst (n + 6), cst⟩ (.bf .len (.cons (.nm 16) .nil)) [some .gen, some (.sh (.int 4)), some (.sh (.int 3)), some (.sh (.int m)), some (.sh (.list [.str "hall", .str "cave", .str "yard", .str "loft"])), some (.sh (.tuple (rs.map roomD))), some (.sh (.list (ts.map Thing.d))), none, none, none, none, none, none, none, none, some (.sh (.list (ways.map wayD))), some (.sh (.list (doors.map Door.d))), none, none, none] g = some (.sh (.int doors.length), g) := by simp_arith [List.length_map]
  have e3 : ev ⟨call prog cst (n + 6), cst⟩ (.rp (.cons (.tu (.cons (.str "door") (.cons (.int 0) .nil))) .nil) (.bf .len (.cons (.nm 16) .nil))) [some .gen, some (.sh (.int 4)), some (.sh (.int 3)), some (.sh (.int m)), some (.sh (.list [.str "hall", .str "cave", .str "yard", .str "loft"])), some (.sh (.tuple (rs.map roomD))), some (.sh (.list (ts.map Thing.d))), none, none, none, none, none, none, none, none, some (.sh (.list (ways.map wayD))), some (.sh (.list (doors.map Door.d))), none, none, none] g = some (.ow (rep doors.length [.tuple [.str "door", .int 0]]), g) := by
    rw [ev_rp, e1, Option.bind_some]
    exact kRp_eq e2 (by rw [sizeLine_eq]; simp only [List.length_cons, List.length_nil]; omega) (by omega)
  simp_arith [e3, hbxe, hrp, hfre]
open K04 in
/-- the keys -/
theorem keys_e (g4 : G) {m : Nat} {rs : List (Str × Bool)} {ways : List (Nat × Str × Nat)} {doors : List Door} {ts : List Thing} {LK : List Lock} {fr : List Nat} (hfrl : fr.length ≤ 4) (hfrm : ∀ k ∈ fr, k < ts.length) (hLKo : ∀ l ∈ LK, (∃ b, l = .box b ∧ (ts[b]?).map Thing.kind = some .box) ∨ (l = .door 0 ∧ 0 < doors.length)) :
    ∃ (ks : List (Nat × Lock)) (g5 : G), ev ⟨call prog cst (n + 6), cst⟩ (.lc (.nm 19) (.nm 7) (.an (.cm .ne (.nm 8) (.li .nil)) (.cm .eq (.ca "_law_take" (some 0) (.cons (.int 2) .nil)) (.int 0))) (.tu (.cons (.ca "_law_pick" (some 0) (.cons (.nm 8) .nil)) (.cons (.nm 19) .nil)))) [some .gen, some (.sh (.int 4)), some (.sh (.int 3)), some (.sh (.int m)), some (.sh (.list [.str "hall", .str "cave", .str "yard", .str "loft"])), some (.sh (.tuple (rs.map roomD))), some (.sh (.list (ts.map Thing.d))), some (.sh (.list (LK.map Lock.d))), some (.sh (.list (fr.map intD))), none, none, none, none, none, none, some (.sh (.list (ways.map wayD))), some (.sh (.list (doors.map Door.d))), none, none, none] g4 = some (.ow (ks.map keyDD), g5) ∧ ks.length ≤ LK.length ∧ ∀ k ∈ ks, k.1 < ts.length ∧ ((∃ b, k.2 = .box b ∧ (ts[b]?).map Thing.kind = some .box) ∨ (k.2 = .door 0 ∧ 0 < doors.length)) := by
  generalize hkc : ev _ (.lc _ _ _ _) _ g4 = R
  obtain ⟨ks, g5, rfl, hks, hksl⟩ := ev_lcg (α := Lock) (β := Nat × Lock) Lock.d keyDD (fun k => k.1 < ts.length ∧ ((∃ b, k.2 = .box b ∧ (ts[b]?).map Thing.kind = some .box) ∨ (k.2 = .door 0 ∧ 0 < doors.length))) hkc (xs := LK) (vi := .sh (.list (LK.map Lock.d))) (g1 := g4) (by simp_arith []) rfl (by
    intro l hl g5
    refine ⟨_, rfl, ?_⟩
    simp_arith [eqD_lnil']
    cases hf : fr with
    | nil =>
      simp_arith [List.map_nil, List.isEmpty_nil]
      exact ⟨_, _, rfl, fun hb => by cases hb⟩
    | cons a as =>
      obtain ⟨i, g6, ht3, hi⟩ := c_tk (N := n + 6) (by omega) g5 (m := 2) (mi := 2) (by decide) (by omega) (by omega)
      simp_arith [List.map_cons, List.isEmpty_cons, kCa_g0, ht3]
      refine ⟨_, _, rfl, fun _ => ?_⟩
      obtain ⟨t, htm, g7, ht4⟩ := c_pickM intD (n + 4) g6 (xs := a :: as) (by simp) (by rw [← hf]; omega)
      have ht4 : call prog cst (n + 6) "_law_pick" true [.list (intD a :: as.map intD)] g6 = some (.sh (intD t), g7) := ht4
      simp_arith [ht4]
      exact ⟨_, (t, l), g7, rfl, rfl, hfrm t (by rw [hf]; exact htm), hLKo l hl⟩)
  exact ⟨ks, g5, rfl, hksl, hks⟩
open K04 in
theorem world_c (g5 : G) {m : Nat} {rs : List (Str × Bool)} {ways : List (Nat × Str × Nat)} {doors : List Door} {ts : List Thing} {x7 x8 : Option Vl} {ks : List (Nat × Lock)} : ∃ (W : World) (g7 : G),
    (∀ rest : Pu.S, ex ⟨call prog cst (n + 6), cst⟩ (.seq (.as_ 10 (.tu (.cons (.str "world") (.cons (.nm 5) (.cons (.bf .tuple (.cons (.nm 15) .nil)) (.cons (.bf .tuple (.cons (.nm 16) .nil)) (.cons (.bf .tuple (.cons (.nm 6) .nil)) (.cons (.bf .tuple (.cons (.nm 9) .nil)) (.cons (.tu (.cons (.tu (.cons (.str "bell") (.cons (.ca "_law_pick" (some 0) (.cons (.li (.cons (.str "on") (.cons (.str "off") .nil))) .nil)) .nil))) .nil)) (.cons (.tu (.cons (.tu (.cons (.str "oil") (.cons (.ca "_law_take" (some 0) (.cons (.int 3) .nil)) .nil))) .nil)) .nil)))))))))) rest) [some .gen, some (.sh (.int 4)), some (.sh (.int 3)), some (.sh (.int m)), some (.sh (.list [.str "hall", .str "cave", .str "yard", .str "loft"])), some (.sh (.tuple (rs.map roomD))), some (.sh (.list (ts.map Thing.d))), x7, x8, some (.sh (.list (ks.map keyDD))), none, none, none, none, none, some (.sh (.list (ways.map wayD))), some (.sh (.list (doors.map Door.d))), none, none, none] g5 = ex ⟨call prog cst (n + 6), cst⟩ rest [some .gen, some (.sh (.int 4)), some (.sh (.int 3)), some (.sh (.int m)), some (.sh (.list [.str "hall", .str "cave", .str "yard", .str "loft"])), some (.sh (.tuple (rs.map roomD))), some (.sh (.list (W.things.map Thing.d))), x7, x8, some (.sh (.list (ks.map keyDD))), some (.sh W.pd), none, none, none, none, some (.sh (.list (ways.map wayD))), some (.sh (.list (doors.map Door.d))), none, none, none] g7) ∧
    W.rooms = rs ∧ W.ways = ways ∧ W.doors = doors ∧ W.things = ts ∧ W.keys = ks ∧ W.count0 ≤ 99 := by
  obtain ⟨mk, hmk, g6, hp1⟩ := c_pickM (fun b => PyData.str (onS b)) (n + 4) g5 (xs := [true, false]) (by decide +kernel) (by decide +kernel)
  have hp1 : call prog cst (n + 6) "_law_pick" true [.list [.str "on", .str "off"]] g5 = some (.sh (.str (onS mk)), g6) := hp1
  obtain ⟨cn, g7, ht5, hcn⟩ := c_tk (N := n + 6) (by omega) g6 (m := 3) (mi := 3) (by decide) (by omega) (by omega)
  refine ⟨⟨rs, ways, doors, ts, ks, mk, cn, [], [], 0, .always, .always⟩, g7, fun rest => ?_, rfl, rfl, rfl, rfl, rfl, by show cn ≤ 99; omega⟩
  simp_arith [tup_lst, kCa_g0, kLi_eq, hp1, ht5]
  rfl
open K04 in
theorem c_world (g : G) : ∃ (W : World) (g1 : G), call prog cst (n + 7) "_law_world" true [.int 4, .int 3] g = some (.sh W.d, g1) ∧ WOk W := by
  rw [u_law_world]
  obtain ⟨m, rs, ways, doors, ts, g1, hA, h2, h4, hrl, hwo, htsl, htok⟩ := world_a (n := n) g
  obtain ⟨LK, fr, hB, hLKl, hfrl, hfrm, hLKo⟩ := world_b (n := n) g1 (m := m) (rs := rs) (ways := ways) (doors := doors) (ts := ts) hwo.d1 htsl
  obtain ⟨ks, g5, hK, hksl, hks⟩ := keys_e (n := n) g1 (m := m) (rs := rs) (ways := ways) (doors := doors) (ts := ts) hfrl hfrm hLKo
  obtain ⟨W, g7, hC, wr, ww, wd, wt, wk, wc⟩ := world_c (n := n) g5 (m := m) (rs := rs) (ways := ways) (doors := doors) (ts := ts) (ks := ks) (x7 := some (.sh (.list (LK.map Lock.d)))) (x8 := some (.sh (.list (fr.map intD))))
  rw [show F_law_world.body = (.seq (.as_ 3 (.bi .add (.int 2) (.ca "_law_take" (some 0) (.cons (.bi .sub (.nm 1) (.int 1)) .nil)))) (.seq (.up [15, 16] (.ca "_law_ways" (some 0) (.cons (.nm 3) .nil))) (.seq (.as_ 4 (.li (.cons (.str "hall") (.cons (.str "cave") (.cons (.str "yard") (.cons (.str "loft") .nil)))))) (.seq (.fz 4) (.seq (.as_ 5 (.bf .tuple (.cons (.lc (.nm 18) (.r1 (.nm 3)) (.bl true) (.tu (.cons (.ix (.nm 4) (.nm 18)) (.cons (.ie (.cm .eq (.ca "_law_take" (some 0) (.cons (.int 5) .nil)) (.int 0)) (.str "dark") (.str "light")) .nil)))) .nil))) (.seq (.as_ 6 (.ca "_law_things" (some 0) (.cons (.nm 3) (.cons (.nm 2) .nil)))) (.seq (.fz 6) (.seq (.as_ 7 (.bi .add (.rp (.cons (.tu (.cons (.str "door") (.cons (.int 0) .nil))) .nil) (.bf .len (.cons (.nm 16) .nil))) (.lc (.nm 18) (.r1 (.bf .len (.cons (.nm 6) .nil))) (.cm .eq (.ix (.ix (.nm 6) (.nm 18)) (.int 2)) (.str "box")) (.tu (.cons (.str "box") (.cons (.nm 18) .nil)))))) (.seq (.fz 7) (.seq (.as_ 8 (.lc (.nm 18) (.r1 (.bf .len (.cons (.nm 6) .nil))) (.cm .eq (.ix (.ix (.nm 6) (.nm 18)) (.int 2)) (.str "thing")) (.nm 18))) (.seq (.fz 8) (.seq (.as_ 9 (.lc (.nm 19) (.nm 7) (.an (.cm .ne (.nm 8) (.li .nil)) (.cm .eq (.ca "_law_take" (some 0) (.cons (.int 2) .nil)) (.int 0))) (.tu (.cons (.ca "_law_pick" (some 0) (.cons (.nm 8) .nil)) (.cons (.nm 19) .nil))))) (.seq (.fz 9) (.seq (.as_ 10 (.tu (.cons (.str "world") (.cons (.nm 5) (.cons (.bf .tuple (.cons (.nm 15) .nil)) (.cons (.bf .tuple (.cons (.nm 16) .nil)) (.cons (.bf .tuple (.cons (.nm 6) .nil)) (.cons (.bf .tuple (.cons (.nm 9) .nil)) (.cons (.tu (.cons (.tu (.cons (.str "bell") (.cons (.ca "_law_pick" (some 0) (.cons (.li (.cons (.str "on") (.cons (.str "off") .nil))) .nil)) .nil))) .nil)) (.cons (.tu (.cons (.tu (.cons (.str "oil") (.cons (.ca "_law_take" (some 0) (.cons (.int 3) .nil)) .nil))) .nil)) .nil)))))))))) worldTl)))))))))))))) from rfl]
  rw [hA, hB, ex_seq, ex_as, hK]
  simp only [Option.bind_some, kAs_ow, List.set_cons_zero, List.set_cons_succ, kS_nx]
  rw [ex_seq, ex_fz]
  simp only [List.getElem?_cons_zero, List.getElem?_cons_succ, fzV_ow, Option.bind_some, List.set_cons_zero, List.set_cons_succ, kS_nx]
  rw [hC]
  have hh : Half W := ⟨by rw [wr]; omega, by rw [wr]; omega, by rw [wt]; omega⟩
  obtain ⟨V, ρ', g8, hV, ⟨vr, vw, vd, vt, vk, vm, vc⟩, k1, k2, k3, k4, k5, k6, k7, k8⟩ := world_tail (n := n) (m := m) hh (by rw [wr]; exact hrl) g7
  rw [hV]
  refine ⟨V, g8, rfl, ?_⟩
  have cc : ∀ {c : Cond}, CondOk W c → CondOk V c := cond_congr vt.symm vd.symm
  have ce : ∀ {f : Eff}, EffOk W f → EffOk V f := effOk_congr vt.symm vd.symm vr.symm
  have cl : ∀ {l : Lock}, LockOk W l → LockOk V l := lockOk_congr vt.symm vd.symm
  refine { win := cc k6.1, lose := cc k7, hw := k6.2, hl := k8, t4 := by rw [vt, wt]; exact htsl, d1 := by rw [vd, wd]; exact hwo.d1, r4 := by rw [vr, wr]; omega, ways := by rw [vw, vr, ww, wr, hrl]; exact hwo.ways, wl := by rw [vw, ww]; exact hwo.wl, door := by rw [vd, vr, wd, wr, hrl]; exact hwo.door, deeds := fun r hr => ?_, nd := k2, afters := fun a ha => ?_, na := k4, keys := fun k hk => ?_, nk := by rw [vk, wk]; omega, start := by rw [vr]; exact k5, places := fun k t ht => ?_, count := by rw [vc]; exact wc }
  · have z := k1 r hr
    exact ⟨fun t ht => by rw [vt]; exact z.thing t ht, cc z.cond, z.ht, fun f hf => ce (z.effs f hf), z.len⟩
  · obtain ⟨z1, z2, z3, z4⟩ := k3 a ha
    exact ⟨cc z1, z2, fun f hf => ce (z3 f hf), z4⟩
  · rw [vk, wk] at hk
    obtain ⟨z1, z2⟩ := hks k hk
    refine ⟨by rw [vt, wt]; exact z1, ?_⟩
    rcases z2 with ⟨b, hb, hbk⟩ | ⟨hb, hd⟩
    · rw [hb]
      show (V.things[b]?).map Thing.kind = some .box
      rw [vt, wt]
      exact hbk
    · rw [hb]
      show 0 < V.doors.length
      rw [vd, wd]
      exact hd
  · rw [vt, wt] at ht
    obtain ⟨z1, z2, z3⟩ := htok t (List.mem_of_getElem? ht)
    refine ⟨?_, z1⟩
    cases hp : t.place with
    | held => exact True.intro
    | gone => exact True.intro
    | room r =>
      show r < V.rooms.length
      rw [vr, wr, hrl]
      exact z2 r hp
    | box b =>
      obtain ⟨y1, rfl⟩ := z3 b hp
      show (V.things[0]?).map Thing.kind = some .box
      rw [vt, wt]
      exact of_decide_eq_true y1
theorem isn_tt : isD (.bool true) (.bool true) = some true := rfl
open K04 in
theorem k04_math : ∀ g : G, ∃ ρ' g', ex (cfOf prog cst 40) F_law.body (none :: some .gen :: List.replicate (N_law.length - 2) none) g = some (.rt (.sh (.bool true)), ρ', g') := by
  intro g
  have key : ∀ g : G, ∃ ρ' g', ex ⟨call prog cst 40, cst⟩ F_law.body [none, some .gen, none, none, none, none] g = some (.rt (.sh (.bool true)), ρ', g') := by
    intro g
    simp_arith [F_law, show kR1r (.sh (.int 8), g) = some (.ow ((List.range 8).map intD), g) from kR1i (n := 8) (by omega)]
    rw [kFo_eq share_ow itL]
    generalize hF : forLoop _ _ ((List.range 8).map intD) _ g = F
    obtain ⟨ρ1, g1, rfl, y2, y3, y4, y5, rfl⟩ := fo_invF intD hF (fun zs ρ g => ∃ y2 y3 y4 y5, ρ = [none, some .gen, y2, y3, y4, y5]) ⟨_, _, _, _, rfl⟩ (by
      rintro zs x ρ g1 hx hpre ⟨y2, y3, y4, y5, rfl⟩
      refine ⟨[none, some .gen, some (.sh (intD x)), y3, y4, y5], rfl, ?_⟩
      obtain ⟨W, g2, hW, w⟩ := c_world (n := 33) g1
      obtain ⟨S, g3, o, hS⟩ := c_met (n := 31) w g2
      obtain ⟨T, g4, o', hT⟩ := c_met (n := 31) w g3
      have e := w.toEndOk
      have r1 : call prog cst 40 "start" false [W.d] g4 = some (.sh (startS W).d, g4) := c_start (n := 38) e
      have r2 : call prog cst 40 "_law_start" false [W.d] g4 = some (.sh (startS W).d, g4) := c_law_start (n := 38) e
      have r3 : call prog cst 40 "is_state" false [W.d, S.d] g4 = some (.sh (.bool true), g4) := c_is_state_ok (n := 36) o e
      have r4 : call prog cst 40 "_law_sight" false [W.d, S.d] g4 = some (.sh (.bool true), g4) := c_sight (n := 28) o e
      have r5 : call prog cst 40 "_law_parts" false [W.d, S.d, T.d] g4 = some (.sh (.bool true), g4) := c_parts (n := 35) o o' e
      have r6 : call prog cst 40 "_law_bent" false [W.d, S.d] g4 = some (.sh (.bool true), g4) := c_bent (n := 35) o e
      have hW : call prog cst 40 "_law_world" true [.int 4, .int 3] g1 = some (.sh W.d, g2) := hW
      have hS : call prog cst 40 "_law_met" true [W.d] g2 = some (.sh S.d, g3) := hS
      have hT : call prog cst 40 "_law_met" true [W.d] g3 = some (.sh T.d, g4) := hT
      simp_arith [kCa_g1, hW, hS, hT, kPa_eq, setAll, List.length_cons, List.length_nil, r1, r2, r3, r4, r5, r6, eqD_S, isn_tt]
      exact ⟨_, _, rfl, _, _, _, _, rfl⟩)
    simp_arith []
    exact ⟨_, _, rfl⟩
  exact key g
end
end Pu.Tw
set_option maxHeartbeats 8000000
theorem PySem.Challenge.cw_toldworlds_k04_whole_states_and_sight_holds : PySem.Challenge.rw_toldworlds_k04_whole_states_and_sight.Holds := by
  exact K04.holds_of Pu.Tw.k04_math
