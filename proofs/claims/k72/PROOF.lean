import PyProof.Rows.All
import Wide.All
import OpenK.AllK
import Wide.FinOn
import HandS.ForMost
import HandS.Text
import HandS.ForExc
import HandS.Lambda
import HandS.Wide
import HandS.TupAny
import HandS.Deep
import HandS.IsInst
import HandS.Style
import HandS.TupLe
import HandS.SortInts
import HandS.TupMul
import PyProof.P3In
import KE.DataMinMax
import HandS.Conv
import KE.SortData
import KE.KRevSl
import HandS.Exc
import HandS.ExcCtx
import HandS.CallLocal
import HandS.Walk
import HandS.Zip
import HandS.Iter
import HandS.Comp
import HandS.TryOnly
import KE.GoesMore
import KE.GoesEnum
import HandS.SetFor
import HandS.Gcd
import HandS.Defaults
import HandS.HeadHook4
import HandS.HotCalls
import HandS.ExcIs
import HandS.Codes
import HandS.HeadWalk
import KE.DataMinKey
import PyProof.WalkInts
import HandS.SortKw
import HandS.Head2
import PyProof.TableCode
import HandS.Words
import HandS.HeadHook1
import HandS.Head0
import HandS.Head1
import HandS.HeadEnd
import HandS.HeadHook2
import HandS.HeadHook3
import KE.KStateDown
import PySem.Challenge.RW_currentkept_k72_whole_levelled_amounts
set_option Elab.async false
section
set_option linter.all false
set_option maxRecDepth 100000
/-! EvDef: plain data, the IR of the laws' Python, its evaluator. -/
namespace EV
open PySem L2

/-! ### data -/
/-- plain data: nothing in it is ever changed any more -/
inductive D where
  | non | bl (b : Bool) | int (i : Int) | str (s : Str)
  | tup (xs : List D) | lst (xs : List D)
  | dk (kvs : List (Key × D)) | dt (kvs : List (List Key × D))
  | scr (xs : List Int) | fn (f : Nat)
/-- what a slot holds: data, or a list or dict that this slot alone knows -/
inductive E where
  | d (x : D) | l (xs : List D) | ll (xs : List (List D)) | dk (kvs : List (Key × D)) | dt (kvs : List (List Key × D))
def E.frz : E → D
  | .d x => x
  | .l xs => .lst xs
  | .ll xs => .lst (xs.map D.lst)
  | .dk kvs => .dk kvs
  | .dt kvs => .dt kvs
/-- read, but not kept -/
def E.rd : E → Option D
  | .d x => some x
  | .l xs => some (.lst xs)
  | .ll _ => none
  | .dk kvs => some (.dk kvs)
  | .dt kvs => some (.dt kvs)
inductive R (α : Type) where
  | ok (a : α) | exc (c : Nat) | bad
def R.bind {α β : Type} (r : R α) (f : α → R β) : R β := match r with
  | .ok a => f a
  | .exc c => .exc c
  | .bad => .bad
def R.ofO {α : Type} : Option α → R α
  | some a => .ok a
  | none => .bad
abbrev Env := List (Option E)
def look : Env → Nat → Option E
  | [], _ => none
  | e :: _, 0 => e
  | _ :: r, i + 1 => look r i
def put : Env → Nat → Option E → Env
  | [], _, _ => []
  | _ :: r, 0, x => x :: r
  | e :: r, i + 1, x => e :: put r i x
def wipes (ρ : Env) : List Nat → Env
  | [] => ρ
  | i :: is => put (wipes ρ is) i none
/-- the slots is as they were in σ -/
def restore (σ ρ : Env) : List Nat → Env
  | [] => ρ
  | i :: is => put (restore σ ρ is) i (look σ i)
/-- behind a statement -/
inductive SR where
  | nx (ρ : Env) | rt (e : E) (ρ : Env) | bk (ρ : Env) | ct (ρ : Env) | exc (c : Nat) | bad
def R.toS {α : Type} (r : R α) (f : α → SR) : SR := match r with
  | .ok a => f a
  | .exc c => .exc c
  | .bad => .bad

/-! ### data as PyData; equality -/
mutual
def D.py : D → Option PyData
  | .non => some .none
  | .bl b => some (.bool b)
  | .int i => some (.int i)
  | .str s => some (.str s)
  | .tup xs => (pyL xs).map .tuple
  | .lst xs => (pyL xs).map .list
  | _ => none
def pyL : List D → Option (List PyData)
  | [] => some []
  | x :: xs => match x.py, pyL xs with
    | some a, some b => some (a :: b)
    | _, _ => none
end
/-- scalars that are compared as they are -/
def scalD : D → D → Bool
  | .non, .non => true | .non, .int _ => true | .int _, .non => true | .non, .bl _ => true | .bl _, .non => true | .non, .str _ => true | .str _, .non => true
  | .int _, .int _ => true | .bl _, .bl _ => true | .str _, .str _ => true
  | .int _, .str _ => true | .str _, .int _ => true | .bl _, .str _ => true | .str _, .bl _ => true
  | _, _ => false
def scEq : D → D → Bool
  | .non, .non => true
  | .int a, .int b => a == b
  | .bl a, .bl b => a == b
  | .str a, .str b => a == b
  | _, _ => false
/-- a == b -/
def eqD (a b : D) : Option Bool :=
  if scalD a b then some (scEq a b) else match a.py, b.py with
  | some x, some y => if x.canLay0 && y.canLay0 && decide (min x.depth y.depth ≤ 64) then some (PyData.eqv x y) else none
  | _, _ => none

/-! ### keys -/
def keyOf : D → Option Key
  | .int i => some (.inl i)
  | .str s => some (.inr s)
  | _ => none
def keysOf : List D → Option (List Key)
  | [] => some []
  | x :: xs => match keyOf x, keysOf xs with
    | some a, some b => some (a :: b)
    | _, _ => none
def ofKey : Key → D
  | .inl i => .int i
  | .inr s => .str s
def kGet {κ : Type} [DecidableEq κ] : List (κ × D) → κ → Option D
  | [], _ => none
  | (j, v) :: r, k => if j = k then some v else kGet r k
def kPut {κ : Type} [DecidableEq κ] (kvs : List (κ × D)) (k : κ) (v : D) : List (κ × D) :=
  if (kGet kvs k).isSome then kvs.map fun kv => if kv.1 = k then (kv.1, v) else kv else kvs ++ [(k, v)]

/-! ### operations without effect -/
inductive Ty where | int | bool | str | tuple | list
inductive Prim where
  | add | sub | mul | fdiv | mod | pow | neg
  | eq | ne | lt | le | gt | ge | isin | notin | isnone | notnone | isb | isnotb
  | ix | slc (lo hi : Bool) | rev
  | len | abs | int | list | tuple | sum | max2 | min2 | maxL | minL | minT | any | all | sorted
  | isinst (t : Ty)
  | lrange (n : Nat) | trange (n : Nat)
  | tup | lst | newK | newT
  | isE (b : Bool) | join (sep : Str)
  | dictK | sortSet | gcd | maxLen
def asI : List D → Option (List Int)
  | [] => some []
  | .int i :: r => (asI r).map (i :: ·)
  | _ :: _ => none
def asB : List D → Option (List Bool)
  | [] => some []
  | .bl b :: r => (asB r).map (b :: ·)
  | _ :: _ => none
def ixD (xs : List D) (i : Int) : Option D := (ixN xs.length i).bind fun j => xs[j]?
def sIx (n d : Nat) : Option Int → Nat := HT.sIx n d
def cut (xs : List D) (lo hi : Option Int) : List D := (xs.drop (HT.sIx xs.length 0 lo)).take (HT.sIx xs.length xs.length hi - HT.sIx xs.length 0 lo)
def bits (i : Int) (n : Nat) : Bool := decide (i.natAbs < 2 ^ n)
def mulOk (i j : Int) : Bool := bits i 63 || bits j 63 || (bits i 8000 && bits j 8000)
def maxI : List Int → Option Int
  | [] => none
  | [a] => some a
  | a :: r => (maxI r).map fun m => if a < m then m else a
def minI : List Int → Option Int
  | [] => none
  | [a] => some a
  | a :: r => (minI r).map fun m => if m < a then m else a
def insI (a : Int) : List Int → List Int
  | [] => [a]
  | b :: r => if a ≤ b then a :: b :: r else b :: insI a r
def sortI : List Int → List Int
  | [] => []
  | a :: r => insI a (sortI r)
def rangeL (lo : Int) : Nat → List D
  | 0 => []
  | n + 1 => .int lo :: rangeL (lo + 1) n
def small (i : Int) : Bool := decide (-(2 ^ 62) ≤ i ∧ i < 2 ^ 62)
def few (n : Nat) : Bool := decide (n ≤ 1000000)
/-- the least one of pairs of ints, by Python's order -/
def ltP (a b : Int × Int) : Bool := decide (a.1 < b.1) || (a.1 == b.1 && decide (a.2 < b.2))
def pairI : D → Option (Int × Int)
  | .tup [.int a, .int b] => some (a, b)
  | _ => none
def pairsI : List D → Option (List (Int × Int))
  | [] => some []
  | x :: r => match pairI x, pairsI r with
    | some a, some b => some (a :: b)
    | _, _ => none
def minPair : List (Int × Int) → Option (Int × Int)
  | [] => none
  | a :: r => some (r.foldl (fun m y => if ltP y m then y else m) a)
def flatD : D → Bool
  | .non => true
  | .bl _ => true
  | .int _ => true
  | .str _ => true
  | _ => false
def eqF : D → D → Bool
  | .non, .non => true
  | .bl a, .bl b => a == b
  | .bl a, .int b => (if a then 1 else 0) == b
  | .int a, .bl b => a == (if b then 1 else 0)
  | .int a, .int b => a == b
  | .str a, .str b => a == b
  | _, _ => false
/-- x in xs -/
def inD (x : D) (xs : List D) : Option Bool :=
  if flatD x && xs.all flatD then some (xs.any fun y => eqF y x) else match x.py, pyL xs with
  | some p, some ps => if p.canLay0 && PyData.canLayAll0 ps && decide (min (PyData.depthAll ps) p.depth ≤ 60) then some (ps.any fun y => PyData.eqv y p) else none
  | _, _ => none
def inst : Ty → D → Option Bool
  | _, .fn _ => none
  | _, .scr _ => none
  | .int, .int _ => some true
  | .int, .bl _ => some true
  | .bool, .bl _ => some true
  | .str, .str _ => some true
  | .tuple, .tup _ => some true
  | .list, .lst _ => some true
  | _, _ => some false
def blD (o : Option Bool) : Option E := o.map fun b => .d (.bl b)
def pAdd : List D → Option E
  | [.int a, .int b] => some (.d (.int (a + b)))
  | [.str a, .str b] => if decide (a.length + b.length ≤ 100000) then some (.d (.str (a ++ b))) else none
  | [.lst a, .lst b] => if few (a.length + b.length) then some (.l (a ++ b)) else none
  | [.tup a, .tup b] => if few (a.length + b.length) then some (.d (.tup (a ++ b))) else none
  | _ => none
def pSub : List D → Option E
  | [.int a, .int b] => some (.d (.int (a - b)))
  | _ => none
def pMul : List D → Option E
  | [.int a, .int b] => if mulOk a b then some (.d (.int (a * b))) else none
  | [.lst a, .int b] => if small b && few (a.length * b.toNat) then some (.l (List.replicate b.toNat a).flatten) else none
  | [.tup a, .int b] => if decide (2 ≤ b ∧ b ≤ 1000) && !a.isEmpty && decide (a.length ≤ 1000) then some (.d (.tup (List.replicate b.toNat a).flatten)) else none
  | _ => none
def pFdiv : List D → Option E
  | [.int a, .int b] => if decide (0 < b) && bits b 8000 then some (.d (.int (a / b))) else none
  | _ => none
def pMod : List D → Option E
  | [.int a, .int b] => if decide (0 < b) then some (.d (.int (a % b))) else none
  | _ => none
def pPow : List D → Option E
  | [.int a, .int b] => if decide (0 ≤ b ∧ b ≤ 1000000) && bits a 63 then some (.d (.int (a ^ b.toNat))) else none
  | _ => none
def pNeg : List D → Option E
  | [.int a] => some (.d (.int (-a)))
  | _ => none
def pEq : List D → Option E
  | [a, b] => blD (eqD a b)
  | _ => none
def pNe : List D → Option E
  | [a, b] => blD ((eqD a b).map (!·))
  | _ => none
def pLt : List D → Option E
  | [.int a, .int b] => some (.d (.bl (decide (a < b))))
  | _ => none
def pLe : List D → Option E
  | [.int a, .int b] => some (.d (.bl (decide (a ≤ b))))
  | _ => none
def pGt : List D → Option E
  | [.int a, .int b] => some (.d (.bl (decide (b < a))))
  | _ => none
def pGe : List D → Option E
  | [.int a, .int b] => some (.d (.bl (decide (b ≤ a))))
  | _ => none
def pIsin : List D → Option E
  | [x, .lst xs] => blD (inD x xs)
  | [x, .tup xs] => blD (inD x xs)
  | [x, .dk kvs] => blD ((keyOf x).map fun k => (kGet kvs k).isSome)
  | [.tup xs, .dt kvs] => blD ((keysOf xs).map fun k => (kGet kvs k).isSome)
  | _ => none
def pNotin : List D → Option E
  | [x, .lst xs] => blD ((inD x xs).map (!·))
  | [x, .tup xs] => blD ((inD x xs).map (!·))
  | [x, .dk kvs] => blD ((keyOf x).map fun k => !(kGet kvs k).isSome)
  | [.tup xs, .dt kvs] => blD ((keysOf xs).map fun k => !(kGet kvs k).isSome)
  | _ => none
def isND : D → Bool
  | .non => true
  | _ => false
def pIsnone : List D → Option E
  | [x] => some (.d (.bl (isND x)))
  | _ => none
def pNotnone : List D → Option E
  | [x] => some (.d (.bl (!isND x)))
  | _ => none
def pIsb : List D → Option E
  | [.bl a, .bl b] => some (.d (.bl (a == b)))
  | _ => none
def pIsnotb : List D → Option E
  | [.bl a, .bl b] => some (.d (.bl (!(a == b))))
  | _ => none
def pIx : List D → Option E
  | [.lst xs, .int i] => (ixD xs i).map .d
  | [.tup xs, .int i] => (ixD xs i).map .d
  | [.dk kvs, x] => ((keyOf x).bind (kGet kvs)).map .d
  | [.dt kvs, .tup xs] => ((keysOf xs).bind (kGet kvs)).map .d
  | _ => none
def pSlc : Bool → Bool → List D → Option E
  | false, false, [.lst xs] => some (.l (cut xs none none))
  | true, false, [.lst xs, .int a] => some (.l (cut xs (some a) none))
  | false, true, [.lst xs, .int b] => some (.l (cut xs none (some b)))
  | true, true, [.lst xs, .int a, .int b] => some (.l (cut xs (some a) (some b)))
  | false, false, [.tup xs] => some (.d (.tup (cut xs none none)))
  | true, false, [.tup xs, .int a] => some (.d (.tup (cut xs (some a) none)))
  | false, true, [.tup xs, .int b] => some (.d (.tup (cut xs none (some b))))
  | true, true, [.tup xs, .int a, .int b] => some (.d (.tup (cut xs (some a) (some b))))
  | _, _, _ => none
def pRev : List D → Option E
  | [.lst xs] => some (.l xs.reverse)
  | [.tup xs] => some (.d (.tup xs.reverse))
  | _ => none
def pLen : List D → Option E
  | [.lst xs] => some (.d (.int xs.length))
  | [.tup xs] => some (.d (.int xs.length))
  | _ => none
def pAbs : List D → Option E
  | [.int a] => some (.d (.int (if a < 0 then -a else a)))
  | _ => none
def pInt : List D → Option E
  | [.int a] => some (.d (.int a))
  | [.bl b] => some (.d (.int (if b then 1 else 0)))
  | _ => none
def pList : List D → Option E
  | [.lst xs] => some (.l xs)
  | [.tup xs] => some (.l xs)
  | [.scr xs] => some (.l (xs.map .int))
  | _ => none
def pTuple : List D → Option E
  | [.lst xs] => some (.d (.tup xs))
  | [.tup xs] => some (.d (.tup xs))
  | _ => none
def pSum : List D → Option E
  | [.lst xs] => (asI xs).map fun ns => .d (.int ns.sum)
  | _ => none
def pMax2 : List D → Option E
  | [.int a, .int b] => some (.d (.int (if b > a then b else a)))
  | _ => none
def pMin2 : List D → Option E
  | [.int a, .int b] => some (.d (.int (if b < a then b else a)))
  | _ => none
def pMaxL : List D → Option E
  | [.lst xs] => ((asI xs).bind maxI).map fun m => .d (.int m)
  | _ => none
def pMinL : List D → Option E
  | [.lst xs] => ((asI xs).bind minI).map fun m => .d (.int m)
  | [.tup xs] => ((asI xs).bind minI).map fun m => .d (.int m)
  | _ => none
def pMinT : List D → Option E
  | [.lst xs] => ((pairsI xs).bind minPair).map fun m => .d (.tup [.int m.1, .int m.2])
  | _ => none
def pAny : List D → Option E
  | [.lst xs] => blD ((asB xs).map fun bs => bs.any id)
  | _ => none
def pAll : List D → Option E
  | [.lst xs] => blD ((asB xs).map fun bs => bs.all id)
  | _ => none
def pSorted : List D → Option E
  | [.lst xs] => (asI xs).bind fun ns => if few ns.length then some (.l ((sortI ns).map .int)) else none
  | _ => none
def pIsinst (t : Ty) : List D → Option E
  | [x] => blD (inst t x)
  | _ => none
def pLrange : Nat → List D → Option E
  | 1, [.int b] => if small b && few b.toNat then some (.l (rangeL 0 b.toNat)) else none
  | 2, [.int a, .int b] => if small a && small b && few (b - a).toNat then some (.l (rangeL a (b - a).toNat)) else none
  | _, _ => none
def pTrange : Nat → List D → Option E
  | 1, [.int b] => if small b && few b.toNat then some (.d (.tup (rangeL 0 b.toNat))) else none
  | 2, [.int a, .int b] => if small a && small b && few (b - a).toNat then some (.d (.tup (rangeL a (b - a).toNat))) else none
  | _, _ => none
def pTup : List D → Option E := fun xs => if few xs.length then some (.d (.tup xs)) else none
def pLst : List D → Option E := fun xs => if few xs.length then some (.l xs) else none
def pNewK : List D → Option E
  | [] => some (.dk [])
  | _ => none
def pNewT : List D → Option E
  | [] => some (.dt [])
  | _ => none
def asS : List D → Option (List Str)
  | [] => some []
  | .str i :: r => (asS r).map (i :: ·)
  | _ :: _ => none
def pIsE (b : Bool) : List D → Option E
  | [.fn _] => some (.d (.bl b))
  | _ => none
def pJoin (sep : Str) : List D → Option E
  | [.lst xs] => (asS xs).bind fun ys => if decide ((ys.map (·.length)).sum + ys.length * sep.length ≤ 1000000) then some (.d (.str (Txt.join sep ys))) else none
  | _ => none
def pDictK : List D → Option E
  | [.dk kvs] => some (.dk kvs)
  | _ => none
def insU (a : Int) : List Int → List Int
  | [] => [a]
  | b :: r => if a < b then a :: b :: r else if a = b then b :: r else b :: insU a r
def sortU : List Int → List Int
  | [] => []
  | a :: r => insU a (sortU r)
def pSortSet : List D → Option E
  | [.lst xs] => (asI xs).bind fun ns => if decide (ns.length < 63) then some (.l ((sortU ns).map .int)) else none
  | [.tup xs] => (asI xs).bind fun ns => if decide (ns.length < 63) then some (.l ((sortU ns).map .int)) else none
  | _ => none
def pGcd : List D → Option E
  | [.int a, .int b] => some (.d (.int (Nat.gcd a.natAbs b.natAbs : Nat)))
  | _ => none
def lensOf : List D → Option (List Nat)
  | [] => some []
  | .lst ys :: r => (lensOf r).map (ys.length :: ·)
  | _ :: _ => none
/-- where the first greatest of the first k + 1 stands -/
def firstMax (ls : List Nat) : Nat → Nat
  | 0 => 0
  | k + 1 => if ls.getD (firstMax ls k) 0 < ls.getD (k + 1) 0 then k + 1 else firstMax ls k
def pMaxLen : List D → Option E
  | [.lst xs] => (lensOf xs).bind fun ls => (xs[firstMax ls (xs.length - 1)]?).map .d
  | _ => none
def prim : Prim → List D → Option E
  | .maxLen => pMaxLen
  | .dictK => pDictK
  | .sortSet => pSortSet
  | .gcd => pGcd
  | .isE b => pIsE b
  | .join sep => pJoin sep
  | .add => pAdd
  | .sub => pSub
  | .mul => pMul
  | .fdiv => pFdiv
  | .mod => pMod
  | .pow => pPow
  | .neg => pNeg
  | .eq => pEq
  | .ne => pNe
  | .lt => pLt
  | .le => pLe
  | .gt => pGt
  | .ge => pGe
  | .isin => pIsin
  | .notin => pNotin
  | .isnone => pIsnone
  | .notnone => pNotnone
  | .isb => pIsb
  | .isnotb => pIsnotb
  | .ix => pIx
  | .slc a b => pSlc a b
  | .rev => pRev
  | .len => pLen
  | .abs => pAbs
  | .int => pInt
  | .list => pList
  | .tuple => pTuple
  | .sum => pSum
  | .max2 => pMax2
  | .min2 => pMin2
  | .maxL => pMaxL
  | .minL => pMinL
  | .minT => pMinT
  | .any => pAny
  | .all => pAll
  | .sorted => pSorted
  | .isinst t => pIsinst t
  | .lrange n => pLrange n
  | .trange n => pTrange n
  | .tup => pTup
  | .lst => pLst
  | .newK => pNewK
  | .newT => pNewT

/-! ### the IR -/
inductive Tg where
  | nm (i : Nat) | tp (ts : List Nat) | tpT (ts : List Nat) | tp2 (i : Nat) (ts : List Nat) | tp3 (ts : List Nat) (i : Nat)
mutual
inductive X where
  | var (i : Nat)
  | mv (i : Nat)
  | cst (d : D)
  | glb (n : Nat) (i : Int)
  | fnv (f : Nat)
  | pr (p : Prim) (as : As)
  | not (a : X)
  | and (a b : X)
  | or (a b : X)
  | chn (o1 o2 : Prim) (a b c : X)
  | ite (c a b : X)
  | call (f : Nat) (as : As)
  | callv (i : Nat) (as : As)
  | lc (own : List Nat) (tg : Tg) (src : Src) (c : X) (e : X)
  | lc2 (own own2 : List Nat) (tg : Tg) (src : Src) (c : X) (tg2 : Tg) (src2 : Src) (c2 : X) (e : X)
  | pop (i : Nat)
  | popAt (i : Nat) (a : X)
  | ix2 (i : Nat) (a b : X)
  | tried (f : Nat) (e : X)
inductive As where
  | nil
  | slt (i : Nat) (r : As)
  | x (e : X) (r : As)
inductive Src where
  | slt (i : Nat)
  | sltL (i : Nat)
  | x (e : X)
  | rng (n : Nat) (as : As)
  | enS (i : Nat)
  | en (e : X)
  | zip (as : As)
end
mutual
inductive S where
  | asg (i : Nat) (x : X)
  | unp (tg : Tg) (x : X)
  | par (is : List Nat) (as : As)
  | setix (i : Nat) (a : X) (x : X)
  | setix2 (i : Nat) (a b : X) (x : X)
  | app (i : Nat) (x : X)
  | ext (i : Nat) (x : X)
  | upd (i : Nat) (x : X)
  | expr (x : X)
  | ite (c : X) (a b : Ss)
  | whl (c : X) (b : Ss)
  | for_ (tg : Tg) (src : Src) (b : Ss)
  | forG (tg : Tg) (i : Nat) (b : Ss)
  | ret (x : X)
  | retN
  | raise (c : Nat)
  | brk | cont | pass
inductive Ss where
  | nil
  | cons (s : S) (r : Ss)
end
structure Def where
  np : Nat
  nv : Nat
  io : List Nat
  body : Ss
structure Hnd where
  /-- the words of the classes, in order; what is handed back if none, some, no error -/
  words : List (Str × Nat)
  post : List Str → Str
structure Calls where
  c1 : Nat → List E → R (E × List (Option E))
  hnd : Nat → Nat → Option D
  c2 : Nat → List E → R (E × List (Option E))
  /-- room enough for a lambda -/
  deep : Bool

/-! ### the evaluator -/
def bindNs : List Nat → List D → Env → Option Env
  | [], [], ρ => some ρ
  | i :: is, d :: ds, ρ => bindNs is ds (put ρ i (some (.d d)))
  | _, _, _ => none
def itemsOf : D → Option (List D)
  | .tup xs => some xs
  | .lst xs => some xs
  | _ => none
def bindT : Tg → D → Env → Option Env
  | .nm i, d, ρ => some (put ρ i (some (.d d)))
  | .tp is, d, ρ => (itemsOf d).bind fun xs => bindNs is xs ρ
  | .tpT is, .tup xs, ρ => bindNs is xs ρ
  | .tp2 i is, .tup [a, b], ρ => (itemsOf b).bind fun xs => bindNs is xs (put ρ i (some (.d a)))
  | .tp3 is i, .tup [a, b], ρ => (itemsOf a).bind fun xs => (bindNs is xs ρ).map fun ρ1 => put ρ1 i (some (.d b))
  | _, _, _ => none
inductive Arg where | s (i : Nat) | v (e : E)
def slots : List Arg → List Nat
  | [] => []
  | .s i :: r => i :: slots r
  | .v _ :: r => slots r
def fillD (ρ : Env) : List Arg → Option (List D)
  | [] => some []
  | .s i :: r => match (look ρ i).bind E.rd, fillD ρ r with
    | some a, some b => some (a :: b)
    | _, _ => none
  | .v e :: r => (fillD ρ r).map (e.frz :: ·)
def fillE (ρ : Env) : List Arg → Option (List E)
  | [] => some []
  | .s i :: r => match look ρ i, fillE ρ r with
    | some a, some b => some (a :: b)
    | _, _ => none
  | .v e :: r => (fillE ρ r).map (e :: ·)
/-- the slots that were handed on hold what the callee left -/
def back (ρ : Env) : List Arg → List (Option E) → Option Env
  | [], [] => some ρ
  | .s i :: r, some e :: os => (back ρ r os).map fun ρ1 => put ρ1 i (some e)
  | .v _ :: r, _ :: os => back ρ r os
  | _, _ => none
def isB : R (E × Env) → R (Bool × Env)
  | .ok (.d (.bl b), ρ) => .ok (b, ρ)
  | .exc c => .exc c
  | _ => .bad
def whileF (c : Env → R (Bool × Env)) (b : Env → SR) : Nat → Env → SR
  | 0, _ => .bad
  | n + 1, ρ => (c ρ).toS fun r => if r.1 then (match b r.2 with
    | .nx ρ' => whileF c b n ρ'
    | .ct ρ' => whileF c b n ρ'
    | .bk ρ' => .nx ρ'
    | x => x) else .nx r.2
def forL (b : D → Env → SR) : List D → Env → SR
  | [], ρ => .nx ρ
  | x :: xs, ρ => match b x ρ with
    | .nx ρ' => forL b xs ρ'
    | .ct ρ' => forL b xs ρ'
    | .bk ρ' => .nx ρ'
    | r => r
def listAt (ρ : Env) (i : Nat) : Option (List D) := ((look ρ i).bind E.rd).bind itemsOf
def forG (i : Nat) (b : D → Env → SR) : Nat → Nat → Env → SR
  | 0, _, _ => .bad
  | n + 1, k, ρ => match listAt ρ i with
    | none => .bad
    | some xs => match xs[k]? with
      | none => .nx ρ
      | some x => match b x ρ with
        | .nx ρ' => forG i b n (k + 1) ρ'
        | .ct ρ' => forG i b n (k + 1) ρ'
        | .bk ρ' => .nx ρ'
        | r => r
def lcL (f : D → Env → R (Option D × Env)) : List D → Env → R (List D × Env)
  | [], ρ => .ok ([], ρ)
  | x :: xs, ρ => match f x ρ with
    | .ok (o, ρ1) => (match lcL f xs ρ1 with
      | .ok (r, ρ2) => .ok (o.toList ++ r, ρ2)
      | _ => .bad)
    | _ => .bad
def lcL2 (f : D → Env → R (List D × Env)) : List D → Env → R (List D × Env)
  | [], ρ => .ok ([], ρ)
  | x :: xs, ρ => match f x ρ with
    | .ok (o, ρ1) => (match lcL2 f xs ρ1 with
      | .ok (r, ρ2) => .ok (o ++ r, ρ2)
      | _ => .bad)
    | _ => .bad
def enumL (k : Nat) : List D → List D
  | [] => []
  | x :: xs => .tup [.int (k : Nat), x] :: enumL (k + 1) xs
def zipL : List D → List D → List D
  | x :: xs, y :: ys => .tup [x, y] :: zipL xs ys
  | _, _ => []
def rngL : Nat → List D → Option (List D)
  | 1, [.int b] => if small b && few b.toNat then some (rangeL 0 b.toNat) else none
  | 2, [.int a, .int b] => if small a && small b && few (b - a).toNat then some (rangeL a (b - a).toNat) else none
  | 3, [.int a, .int b, .int c] => if small a && small b && decide (c = -1) && few (a - b).toNat then some ((List.range (a - b).toNat).map fun k => .int (a - (k : Nat))) else none
  | _, _ => none
def keysD : D → Option (List D)
  | .tup xs => some xs
  | .lst xs => some xs
  | _ => none
mutual
def evX (c : Calls) : X → Env → R (E × Env)
  | .var i, ρ => match look ρ i with
    | some (.d x) => .ok (.d x, ρ)
    | some e => .ok (.d e.frz, put ρ i (some (.d e.frz)))
    | none => .bad
  | .mv i, ρ => match look ρ i with
    | some e => .ok (e, put ρ i none)
    | none => .bad
  | .cst d, ρ => .ok (.d d, ρ)
  | .glb _ i, ρ => .ok (.d (.int i), ρ)
  | .fnv f, ρ => .ok (.d (.fn f), ρ)
  | .pr p as, ρ => (evAs c as ρ).bind fun r => (R.ofO ((fillD r.2 r.1).bind (prim p))).bind fun e => .ok (e, r.2)
  | .not a, ρ => (isB (evX c a ρ)).bind fun r => .ok (.d (.bl (!r.1)), r.2)
  | .and a b, ρ => (isB (evX c a ρ)).bind fun r => if r.1 then (isB (evX c b r.2)).bind fun q => .ok (.d (.bl q.1), q.2) else .ok (.d (.bl false), r.2)
  | .or a b, ρ => (isB (evX c a ρ)).bind fun r => if r.1 then .ok (.d (.bl true), r.2) else (isB (evX c b r.2)).bind fun q => .ok (.d (.bl q.1), q.2)
  | .chn o1 o2 a b x, ρ => (evX c a ρ).bind fun r => (evX c b r.2).bind fun q => match prim o1 [r.1.frz, q.1.frz] with
    | some (.d (.bl true)) => (evX c x q.2).bind fun z => (R.ofO (prim o2 [q.1.frz, z.1.frz])).bind fun e => .ok (e, z.2)
    | some (.d (.bl false)) => .ok (.d (.bl false), q.2)
    | _ => .bad
  | .ite x a b, ρ => (isB (evX c x ρ)).bind fun r => if r.1 then evX c a r.2 else evX c b r.2
  | .call f as, ρ => (evAs c as ρ).bind fun r => (R.ofO (fillE r.2 r.1)).bind fun es => (c.c1 f es).bind fun q => (R.ofO (back r.2 r.1 q.2)).bind fun ρ1 => .ok (q.1, ρ1)
  | .callv i as, ρ => match look ρ i with
    | some (.d (.fn f)) => (evAs c as ρ).bind fun r => (R.ofO (fillE r.2 r.1)).bind fun es => (c.c1 f es).bind fun q => (R.ofO (back r.2 r.1 q.2)).bind fun ρ1 => .ok (q.1, ρ1)
    | _ => .bad
  | .lc own tg src t e, ρ => (evSrc c src ρ).bind fun r =>
      (lcL (fun x ρ => (R.ofO (bindT tg x ρ)).bind fun ρ1 => (isB (evX c t ρ1)).bind fun q => if q.1 then (evX c e q.2).bind fun z => .ok (some z.1.frz, wipes z.2 own) else .ok (none, wipes q.2 own)) r.1 (wipes r.2.1 (own ++ r.2.2))).bind fun z =>
        .ok (.l z.1, restore r.2.1 z.2 (own ++ r.2.2))
  | .lc2 own own2 tg src t tg2 src2 t2 e, ρ => (evSrc c src ρ).bind fun r =>
      (lcL2 (fun x ρ => (R.ofO (bindT tg x ρ)).bind fun ρ1 => (isB (evX c t ρ1)).bind fun q => if q.1 then (evSrc c src2 q.2).bind fun r2 =>
          (lcL (fun x ρ => (R.ofO (bindT tg2 x ρ)).bind fun ρ1 => (isB (evX c t2 ρ1)).bind fun q => if q.1 then (evX c e q.2).bind fun z => .ok (some z.1.frz, wipes z.2 own2) else .ok (none, wipes q.2 own2)) r2.1 (wipes r2.2.1 (own2 ++ r2.2.2))).bind fun z => .ok (z.1, wipes (restore r2.2.1 z.2 (own2 ++ r2.2.2)) own)
        else .ok ([], wipes q.2 own)) r.1 (wipes r.2.1 (own ++ r.2.2))).bind fun z =>
        if few z.1.length then .ok (.l z.1, restore r.2.1 z.2 (own ++ r.2.2)) else .bad
  | .pop i, ρ => match look ρ i with
    | some (.l xs) => (match xs[xs.length - 1]? with
      | some x => .ok (.d x, put ρ i (some (.l xs.dropLast)))
      | none => .bad)
    | _ => .bad
  | .popAt i a, ρ => (evX c a ρ).bind fun r => match r.1, look r.2 i with
    | .d (.int k), some (.l xs) => (match ixN xs.length k with
      | some j => (match xs[j]? with
        | some x => .ok (.d x, put r.2 i (some (.l (xs.eraseIdx j))))
        | none => .bad)
      | none => .bad)
    | _, _ => .bad
  | .ix2 i a b, ρ => (evX c a ρ).bind fun r => (evX c b r.2).bind fun q => match r.1, q.1, look q.2 i with
    | .d (.int k), .d (.int m), some (.ll xs) => (match (ixN xs.length k).bind fun j => xs[j]? with
      | some row => (match ixD row m with
        | some x => .ok (.d x, q.2)
        | none => .bad)
      | none => .bad)
    | _, _, _ => .bad
  | .tried f e, ρ => if c.deep then (match evX { c with c1 := c.c2 } e (ρ.map fun o => match o with | some (.d x) => some (.d x) | _ => none) with
    | .ok (.d _, _) => (match c.hnd f 0 with
      | some d => .ok (.d d, ρ)
      | none => .bad)
    | .exc k => (match c.hnd f (k + 1) with
      | some d => .ok (.d d, ρ)
      | none => .bad)
    | _ => .bad) else .bad
def evAs (c : Calls) : As → Env → R (List Arg × Env)
  | .nil, ρ => .ok ([], ρ)
  | .slt i r, ρ => match look ρ i with
    | some _ => (evAs c r ρ).bind fun q => .ok (.s i :: q.1, q.2)
    | none => .bad
  | .x e r, ρ => (evX c e ρ).bind fun v => (evAs c r v.2).bind fun q => .ok (.v v.1 :: q.1, q.2)
/-- the items; the slots; the slots that are hidden while they are walked -/
def evSrc (c : Calls) : Src → Env → R (List D × Env × List Nat)
  | .slt i, ρ => (R.ofO (((look ρ i).bind E.rd).bind keysD)).bind fun xs => .ok (xs, ρ, [i])
  | .sltL i, ρ => match look ρ i with
    | some (.l xs) => .ok (xs, ρ, [i])
    | _ => .bad
  | .x e, ρ => (evX c e ρ).bind fun r => (R.ofO (keysD r.1.frz)).bind fun xs => .ok (xs, r.2, [])
  | .rng n as, ρ => (evAs c as ρ).bind fun r => (R.ofO ((fillD r.2 r.1).bind (rngL n))).bind fun xs => .ok (xs, r.2, [])
  | .enS i, ρ => (R.ofO (((look ρ i).bind E.rd).bind itemsOf)).bind fun xs => .ok (enumL 0 xs, ρ, [i])
  | .en e, ρ => (evX c e ρ).bind fun r => (R.ofO (itemsOf r.1.frz)).bind fun xs => .ok (enumL 0 xs, r.2, [])
  | .zip as, ρ => (evAs c as ρ).bind fun r => (R.ofO ((fillD r.2 r.1).bind fun ds => match ds with
      | [.lst xs, .lst ys] => some (zipL xs ys)
      | [.tup xs, .tup ys] => some (zipL xs ys)
      | [.lst xs, .tup ys] => some (zipL xs ys)
      | _ => none)).bind fun xs => .ok (xs, r.2, slots r.1)
end
def setE (e : E) (k : D) (v : D) : Option E := match e, k with
  | .l xs, .int i => (ixN xs.length i).map fun j => .l (xs.set j v)
  | .dk kvs, k => if few kvs.length then (keyOf k).map fun k => .dk (kPut kvs k v) else none
  | .dt kvs, .tup ks => if few kvs.length then (keysOf ks).map fun k => .dt (kPut kvs k v) else none
  | _, _ => none
def mergeD (kvs : List (Key × D)) : List (Key × D) → List (Key × D)
  | [] => kvs
  | (k, v) :: r => mergeD (kPut kvs k v) r
def wrapF (ρ : Env) (hid : List Nat) : SR → SR
  | .nx ρ' => .nx (restore ρ ρ' hid)
  | .rt e ρ' => .rt e (restore ρ ρ' hid)
  | z => z
def isL : Option E → Bool
  | some (.l _) => true
  | _ => false
def fuelW : Nat := 1000000
mutual
def evS (c : Calls) : S → Env → SR
  | .asg i x, ρ => (evX c x ρ).toS fun r => .nx (put r.2 i (some r.1))
  | .unp tg x, ρ => (evX c x ρ).toS fun r => match bindT tg r.1.frz r.2 with
    | some ρ1 => .nx ρ1
    | none => .bad
  | .par is as, ρ => (evAs c as ρ).toS fun r => match fillE r.2 r.1 with
    | some es => .nx ((is.zip es).foldl (fun ρ p => put ρ p.1 (some p.2)) r.2)
    | none => .bad
  | .setix i a x, ρ => (evX c x ρ).toS fun r => if (look r.2 i).isSome then (evX c a r.2).toS fun q => match look q.2 i with
    | some e => (match setE e q.1.frz r.1.frz with
      | some e' => .nx (put q.2 i (some e'))
      | none => .bad)
    | none => .bad else .bad
  | .setix2 i a b x, ρ => (evX c x ρ).toS fun r => (evX c a r.2).toS fun q => (evX c b q.2).toS fun z => match q.1, z.1, look z.2 i with
    | .d (.int k), .d (.int m), some (.ll rows) => (match ixN rows.length k with
      | some j => (match rows[j]? with
        | some row => (match ixN row.length m with
          | some n => .nx (put z.2 i (some (.ll (rows.set j (row.set n r.1.frz)))))
          | none => .bad)
        | none => .bad)
      | none => .bad)
    | _, _, _ => .bad
  | .app i x, ρ => if isL (look ρ i) then (evX c x ρ).toS fun r => match look r.2 i with
    | some (.l xs) => if few xs.length then .nx (put r.2 i (some (.l (xs ++ [r.1.frz])))) else .bad
    | _ => .bad else .bad
  | .ext i x, ρ => (evX c x ρ).toS fun r => match look r.2 i, r.1.frz with
    | some (.l xs), .lst ys => if few (xs.length + ys.length) then .nx (put r.2 i (some (.l (xs ++ ys)))) else .bad
    | _, _ => .bad
  | .upd i x, ρ => (evX c x ρ).toS fun r => match look r.2 i, r.1.frz with
    | some (.dk kvs), .dk more => if few (kvs.length + more.length) then .nx (put r.2 i (some (.dk (mergeD kvs more)))) else .bad
    | _, _ => .bad
  | .expr x, ρ => (evX c x ρ).toS fun r => .nx r.2
  | .ite x a b, ρ => (isB (evX c x ρ)).toS fun r => if r.1 then evSs c a r.2 else evSs c b r.2
  | .whl x b, ρ => whileF (fun ρ => isB (evX c x ρ)) (fun ρ => evSs c b ρ) fuelW ρ
  | .for_ tg src b, ρ => (evSrc c src ρ).toS fun r => wrapF r.2.1 r.2.2 (forL (fun x ρ => match bindT tg x ρ with
      | some ρ1 => evSs c b ρ1
      | none => .bad) r.1 (wipes r.2.1 r.2.2))
  | .forG tg i b, ρ => forG i (fun x ρ => match bindT tg x ρ with
      | some ρ1 => evSs c b ρ1
      | none => .bad) fuelW 0 ρ
  | .ret x, ρ => (evX c x ρ).toS fun r => .rt r.1 r.2
  | .retN, ρ => .rt (.d .non) ρ
  | .raise k, _ => .exc k
  | .brk, ρ => .bk ρ
  | .cont, ρ => .ct ρ
  | .pass, ρ => .nx ρ
def evSs (c : Calls) : Ss → Env → SR
  | .nil, ρ => .nx ρ
  | .cons s r, ρ => match evS c s ρ with
    | .nx ρ' => evSs c r ρ'
    | z => z
end
/-- a def at its arguments -/
def entE (io : List Nat) : Nat → List E → Env
  | _, [] => []
  | j, e :: es => (if io.contains j then some e else some (.d e.frz)) :: entE io (j + 1) es
def enter (d : Def) (es : List E) : Option Env :=
  if es.length = d.np then some (entE d.io 0 es ++ List.replicate (d.nv - d.np) none) else none
def outE (io : List Nat) (ρ : Env) : Nat → Nat → Option (List (Option E))
  | _, 0 => some []
  | j, n + 1 => match outE io ρ (j + 1) n with
    | some r => if io.contains j then (look ρ j).map fun e => some e :: r else some (none :: r)
    | none => none
def outs (d : Def) (ρ : Env) : Option (List (Option E)) := outE d.io ρ 0 d.np
def evD (c : Calls) (d : Def) (es : List E) : R (E × List (Option E)) :=
  (R.ofO (enter d es)).bind fun ρ => match evSs c d.body ρ with
    | .nx ρ' => (R.ofO (outs d ρ')).bind fun os => .ok (.d .non, os)
    | .rt e ρ' => (R.ofO (outs d ρ')).bind fun os => .ok (e, os)
    | .exc k => .exc k
    | _ => .bad
structure Prg where
  defs : List Def
  hnd : Nat → Nat → Option D
abbrev Call := Nat → List E → R (E × List (Option E))
def none3 : Call × Call × Call := (fun _ _ => .bad, fun _ _ => .bad, fun _ _ => .bad)
def mkCalls (p : Prg) (n : Nat) (t : Call × Call × Call) : Calls := ⟨t.1, p.hnd, t.2.2, decide (2 ≤ n)⟩
def runs (p : Prg) : Nat → Call × Call × Call
  | 0 => none3
  | n + 1 => (fun f es => match p.defs[f]? with
      | some d => evD (mkCalls p n (runs p n)) d es
      | none => .bad, (runs p n).1, (runs p n).2.1)
def run (p : Prg) (n : Nat) (f : Nat) (es : List E) : R (E × List (Option E)) := (runs p n).1 f es
end EV
end
section
set_option linter.all false
set_option maxRecDepth 100000
/-! EvRep: how data lie in the abstract heap; ownership; states and steps. -/
namespace EV
open PySem L2 PySem.Spec PyProof.Rows

abbrev Frz := Addr → Prop
section
variable (K : PySem.W.Frag) (fa : Nat → Addr)
mutual
/-- the data d lie at v; every list and dict in them is frozen -/
inductive RD (Φ : Frz) (H : Hp) : V → D → Prop
  | non : RD Φ H .non .non
  | bl (b : Bool) : RD Φ H (.bl b) (.bl b)
  | int (i : Int) : RD Φ H (.int i) (.int i)
  | str (s : Str) : RD Φ H (.str s) (.str s)
  | tup {a : Addr} {vs : List V} {xs : List D} : H a = some (.tup vs) → RDs Φ H vs xs → RD Φ H (.ref a) (.tup xs)
  | lst {a : Addr} {vs : List V} {xs : List D} : Φ a → H a = some (.lst vs) → RDs Φ H vs xs → RD Φ H (.ref a) (.lst xs)
  | dk {a : Addr} {ws : List (Key × V)} {kvs : List (Key × D)} : Φ a → H a = some (.dK ws) → RDk Φ H ws kvs → RD Φ H (.ref a) (.dk kvs)
  | dt {a : Addr} {ws : List (List Key × V)} {kvs : List (List Key × D)} : Φ a → H a = some (.dT ws) → RDt Φ H ws kvs → RD Φ H (.ref a) (.dt kvs)
  | scrF {a : Addr} {o : Obj} {xs : List Int} : H a = some (.frz o (.lst (xs.map .int))) → RD Φ H (.ref a) (.scr xs)
  | scrK {a : Addr} {o : Obj} {its : Array Value} {n : Nat} {xs : List Int} : K.lookup a = some o → o.cls = .type "list" → o.dict = none → o.data = .seq its n → its.size ≤ sizeLine → Vals (xs.map V.int) its.toList → RD Φ H (.ref a) (.scr xs)
  | scrL {a : Addr} {xs : List Int} : Φ a → H a = some (.lst (xs.map .int)) → RD Φ H (.ref a) (.scr xs)
  | fn (f : Nat) : RD Φ H (.ref (fa f)) (.fn f)
inductive RDs (Φ : Frz) (H : Hp) : List V → List D → Prop
  | nil : RDs Φ H [] []
  | cons {v : V} {vs : List V} {d : D} {ds : List D} : RD Φ H v d → RDs Φ H vs ds → RDs Φ H (v :: vs) (d :: ds)
inductive RDk (Φ : Frz) (H : Hp) : List (Key × V) → List (Key × D) → Prop
  | nil : RDk Φ H [] []
  | cons {k : Key} {v : V} {vs : List (Key × V)} {d : D} {ds : List (Key × D)} : RD Φ H v d → RDk Φ H vs ds → RDk Φ H ((k, v) :: vs) ((k, d) :: ds)
inductive RDt (Φ : Frz) (H : Hp) : List (List Key × V) → List (List Key × D) → Prop
  | nil : RDt Φ H [] []
  | cons {k : List Key} {v : V} {vs : List (List Key × V)} {d : D} {ds : List (List Key × D)} : RD Φ H v d → RDt Φ H vs ds → RDt Φ H ((k, v) :: vs) ((k, d) :: ds)
end
/-- rows of a list of lists -/
inductive RRs (Φ : Frz) (H : Hp) : List Addr → List (List D) → Prop
  | nil : RRs Φ H [] []
  | cons {b : Addr} {bs : List Addr} {vs : List V} {xs : List D} {r : List (List D)} : H b = some (.lst vs) → RDs K fa Φ H vs xs → RRs Φ H bs r → RRs Φ H (b :: bs) (xs :: r)
/-- what a slot holds lies at v; the addresses that it owns -/
inductive RE (Φ : Frz) (H : Hp) : V → E → List Addr → Prop
  | d {v : V} {x : D} : RD K fa Φ H v x → RE Φ H v (.d x) []
  | l {a : Addr} {vs : List V} {xs : List D} : H a = some (.lst vs) → RDs K fa Φ H vs xs → RE Φ H (.ref a) (.l xs) [a]
  | ll {a : Addr} {bs : List Addr} {rows : List (List D)} : H a = some (.lst (bs.map .ref)) → RRs K fa Φ H bs rows → RE Φ H (.ref a) (.ll rows) (a :: bs)
  | dk {a : Addr} {ws : List (Key × V)} {kvs : List (Key × D)} : H a = some (.dK ws) → RDk K fa Φ H ws kvs → RE Φ H (.ref a) (.dk kvs) [a]
  | dt {a : Addr} {ws : List (List Key × V)} {kvs : List (List Key × D)} : H a = some (.dT ws) → RDt K fa Φ H ws kvs → RE Φ H (.ref a) (.dt kvs) [a]

/-- what may happen to the heap while the addresses F are ours -/
structure Ext (F : Addr → Prop) (Φ : Frz) (H : Hp) (Φ' : Frz) (H' : Hp) : Prop where
  mono : ∀ a, Φ a → Φ' a
  back : ∀ a, Φ' a → Φ a ∨ F a ∨ H a = none
  keep : ∀ b o, H b = some o → ¬ F b → (∀ ps, o ≠ .tbl ps) → H' b = some o
  dom : ∀ b, H' b = none → H b = none
/-- the owned addresses are not frozen, what is frozen is there -/
structure Wd (Φ : Frz) (H : Hp) (F : Addr → Prop) : Prop where
  nf : ∀ a, F a → ¬ Φ a
  tr : ∀ a, Φ a → H a ≠ none
  mu : ∀ a, F a → Mut (H a)
variable {K fa} {Φ Φ' Φ'' : Frz} {H H' H'' : Hp} {F F' : Addr → Prop}
theorem Ext.refl : Ext F Φ H Φ H := ⟨fun _ h => h, fun _ h => .inl h, fun _ _ h _ _ => h, fun _ h => h⟩
theorem Ext.trans (a : Ext F Φ H Φ' H') (b : Ext F' Φ' H' Φ'' H'') (hF : ∀ x, F' x → F x ∨ H x = none) : Ext F Φ H Φ'' H'' where
  mono := fun x h => b.mono x (a.mono x h)
  back := fun x h => by
    rcases b.back x h with h | h | h
    · exact a.back x h
    · exact (hF x h).elim (fun z => .inr (.inl z)) fun z => .inr (.inr z)
    · exact .inr (.inr (a.dom x h))
  keep := fun x o e n t => b.keep x o (a.keep x o e n t) (fun z => (hF x z).elim n fun q => by rw [q] at e; cases e) t
  dom := fun x h => a.dom x (b.dom x h)
theorem Ext.mono' (a : Ext F Φ H Φ' H') (hF : ∀ x, F x → F' x) : Ext F' Φ H Φ' H' :=
  ⟨a.mono, fun x h => (a.back x h).imp id (Or.imp (hF x) id), fun b o e n t => a.keep b o e (fun z => n (hF b z)) t, a.dom⟩
theorem Wd.nm {a : Addr} {o : HO} (w : Wd Φ H F) (e : H a = some o) (nm : ¬ Mut (some o)) : ¬ F a := fun z => by
  have q := w.mu a z
  rw [e] at q
  exact nm q
theorem Wd.sub (w : Wd Φ H F) (h : ∀ x, F' x → F x) : Wd Φ H F' := ⟨fun a z => w.nf a (h a z), w.tr, fun a z => w.mu a (h a z)⟩

/-- what data lean on stays -/
structure Stay (Φ : Frz) (H : Hp) (Φ' : Frz) (H' : Hp) : Prop where
  mono : ∀ a, Φ a → Φ' a
  frz : ∀ b o, H b = some o → Φ b → (∀ ps, o ≠ .tbl ps) → H' b = some o
  imm : ∀ b o, H b = some o → ¬ Mut (some o) → (∀ ps, o ≠ .tbl ps) → H' b = some o
section
variable (y : Stay Φ H Φ' H')
include y
mutual
theorem RD.stay : ∀ {v : V} {d : D}, RD K fa Φ H v d → RD K fa Φ' H' v d
  | _, _, .non => .non
  | _, _, .bl b => .bl b
  | _, _, .int i => .int i
  | _, _, .str s => .str s
  | _, _, .tup e r => .tup (y.imm _ _ e (fun z => z) (fun _ z => nomatch z)) (RDs.stay r)
  | _, _, .lst f e r => .lst (y.mono _ f) (y.frz _ _ e f (fun _ z => nomatch z)) (RDs.stay r)
  | _, _, .dk f e r => .dk (y.mono _ f) (y.frz _ _ e f (fun _ z => nomatch z)) (RDk.stay r)
  | _, _, .dt f e r => .dt (y.mono _ f) (y.frz _ _ e f (fun _ z => nomatch z)) (RDt.stay r)
  | _, _, .scrF e => .scrF (y.imm _ _ e (fun z => z) (fun _ z => nomatch z))
  | _, _, .scrK a b c d e f => .scrK a b c d e f
  | _, _, .scrL f e => .scrL (y.mono _ f) (y.frz _ _ e f (fun _ z => nomatch z))
  | _, _, .fn f => .fn f
theorem RDs.stay : ∀ {vs : List V} {ds : List D}, RDs K fa Φ H vs ds → RDs K fa Φ' H' vs ds
  | _, _, .nil => .nil
  | _, _, .cons a b => .cons (RD.stay a) (RDs.stay b)
theorem RDk.stay : ∀ {vs : List (Key × V)} {ds : List (Key × D)}, RDk K fa Φ H vs ds → RDk K fa Φ' H' vs ds
  | _, _, .nil => .nil
  | _, _, .cons a b => .cons (RD.stay a) (RDk.stay b)
theorem RDt.stay : ∀ {vs : List (List Key × V)} {ds : List (List Key × D)}, RDt K fa Φ H vs ds → RDt K fa Φ' H' vs ds
  | _, _, .nil => .nil
  | _, _, .cons a b => .cons (RD.stay a) (RDt.stay b)
end
end
theorem Ext.stay (w : Wd Φ H F) (x : Ext F Φ H Φ' H') : Stay Φ H Φ' H' :=
  ⟨x.mono, fun b o e f t => x.keep b o e (fun z => w.nf b z f) t, fun b o e m t => x.keep b o e (w.nm e m) t⟩
theorem Stay.more (h : ∀ a, Φ a → Φ' a) : Stay Φ H Φ' H := ⟨h, fun _ _ e _ _ => e, fun _ _ e _ _ => e⟩
section
variable (w : Wd Φ H F) (x : Ext F Φ H Φ' H')
include w x
theorem RD.ext {v : V} {d : D} (r : RD K fa Φ H v d) : RD K fa Φ' H' v d := r.stay (x.stay w)
theorem RDs.ext {v : List V} {d : List D} (r : RDs K fa Φ H v d) : RDs K fa Φ' H' v d := r.stay (x.stay w)
theorem RDk.ext {v : List (Key × V)} {d : List (Key × D)} (r : RDk K fa Φ H v d) : RDk K fa Φ' H' v d := r.stay (x.stay w)
theorem RDt.ext {v : List (List Key × V)} {d : List (List Key × D)} (r : RDt K fa Φ H v d) : RDt K fa Φ' H' v d := r.stay (x.stay w)
theorem RRs.ext {bs : List Addr} {rows : List (List D)} (r : RRs K fa Φ H bs rows) (hn : ∀ a ∈ bs, ¬ F a) : RRs K fa Φ' H' bs rows := by
  induction r with
  | nil => exact .nil
  | cons e r _ ih => exact .cons (x.keep _ _ e (hn _ List.mem_cons_self) (fun _ z => nomatch z)) (RDs.ext w x r) (ih fun a h => hn a (List.mem_cons_of_mem _ h))
/-- what is owned elsewhere stays -/
theorem RE.ext {v : V} {e : E} {G : List Addr} (r : RE K fa Φ H v e G) (hn : ∀ a ∈ G, ¬ F a) : RE K fa Φ' H' v e G := by
  cases r with
  | d r => exact .d (RD.ext w x r)
  | l e r => exact .l (x.keep _ _ e (hn _ List.mem_cons_self) (fun _ z => nomatch z)) (RDs.ext w x r)
  | ll e r => exact .ll (x.keep _ _ e (hn _ List.mem_cons_self) (fun _ z => nomatch z)) (RRs.ext w x r fun a h => hn a (List.mem_cons_of_mem _ h))
  | dk e r => exact .dk (x.keep _ _ e (hn _ List.mem_cons_self) (fun _ z => nomatch z)) (RDk.ext w x r)
  | dt e r => exact .dt (x.keep _ _ e (hn _ List.mem_cons_self) (fun _ z => nomatch z)) (RDt.ext w x r)
end
end
theorem RRs.there {K : PySem.W.Frag} {fa : Nat → Addr} {Φ : Frz} {H : Hp} {bs : List Addr} {rows : List (List D)} (r : RRs K fa Φ H bs rows) : ∀ a ∈ bs, ∃ vs, H a = some (.lst vs) := by
  induction r with
  | nil => intro a h; cases h
  | cons e _ _ ih =>
    intro a h
    rcases List.mem_cons.mp h with rfl | h
    · exact ⟨_, e⟩
    · exact ih a h
theorem RE.there {K : PySem.W.Frag} {fa : Nat → Addr} {Φ : Frz} {H : Hp} {v : V} {e : E} {G : List Addr} (r : RE K fa Φ H v e G) : ∀ a ∈ G, Mut (H a) := by
  intro a h
  cases r with
  | d r => cases h
  | l e r =>
    rw [List.mem_singleton.mp h, e]; trivial
  | ll e r =>
    rcases List.mem_cons.mp h with rfl | h
    · rw [e]; trivial
    · obtain ⟨vs, q⟩ := r.there a h
      rw [q]; trivial
  | dk e r =>
    rw [List.mem_singleton.mp h, e]; trivial
  | dt e r =>
    rw [List.mem_singleton.mp h, e]; trivial

/-! ### slots -/
theorem look_put (ρ : Env) (i j : Nat) (x : Option E) : look (put ρ i x) j = if j = i ∧ i < ρ.length then x else look ρ j := by
  induction ρ generalizing i j with
  | nil => cases i <;> cases j <;> simp [look, put]
  | cons e r ih =>
    cases i with
    | zero => cases j <;> simp [look, put]
    | succ i =>
      cases j with
      | zero => simp [look, put]
      | succ j => simp [look, put, ih]
theorem put_length (ρ : Env) (i : Nat) (x : Option E) : (put ρ i x).length = ρ.length := by
  induction ρ generalizing i with
  | nil => rfl
  | cons e r ih => cases i <;> simp [put, ih]
theorem look_lt {ρ : Env} {i : Nat} {e : E} (h : look ρ i = some e) : i < ρ.length := by
  induction ρ generalizing i with
  | nil => cases i <;> cases h
  | cons a r ih =>
    cases i with
    | zero => simp
    | succ i => have := ih (i := i) h; simp; omega
/-- who owns what -/
abbrev Fp := Nat → List Addr
def own (fp : Fp) (a : Addr) : Prop := ∃ i, a ∈ fp i
def setF (fp : Fp) (i : Nat) (l : List Addr) : Fp := fun j => if j = i then l else fp j
theorem setF_same {fp : Fp} {i : Nat} {l : List Addr} : setF fp i l i = l := if_pos rfl
theorem setF_ne {fp : Fp} {i j : Nat} {l : List Addr} (h : j ≠ i) : setF fp i l j = fp j := if_neg h
structure REnv (K : PySem.W.Frag) (fa : Nat → Addr) (Φ : Frz) (H : Hp) (σ : L2.St) (ρ : Env) (fp : Fp) : Prop where
  at_ : ∀ i e, look ρ i = some e → ∃ v, σ[i]? = some (some v) ∧ RE K fa Φ H v e (fp i)
  no : ∀ i, look ρ i = none → fp i = []
  nd : ∀ i, (fp i).Nodup
  inj : ∀ i j a, a ∈ fp i → a ∈ fp j → i = j
  len : σ.length = ρ.length
/-- the slots' state, with the temporaries' addresses G -/
structure Sta (K : PySem.W.Frag) (fa : Nat → Addr) (Φ : Frz) (H : Hp) (σ : L2.St) (ρ : Env) (fp : Fp) (G : List Addr) : Prop where
  env : REnv K fa Φ H σ ρ fp
  wd : Wd Φ H (fun a => own fp a ∨ a ∈ G)
  gnd : G.Nodup
  gn : ∀ a ∈ G, ¬ own fp a
/-- from a state (no temporaries) to a later one, with new temporaries -/
structure Stp (Φ : Frz) (H : Hp) (fp : Fp) (Φ' : Frz) (H' : Hp) (fp' : Fp) (G' : List Addr) : Prop where
  ext : Ext (own fp) Φ H Φ' H'
  sub : ∀ a, own fp' a ∨ a ∈ G' → own fp a ∨ H a = none
section
variable {K : PySem.W.Frag} {fa : Nat → Addr} {Φ Φ' Φ'' : Frz} {H H' H'' : Hp} {σ σ' : L2.St} {ρ ρ' : Env} {fp fp' fp'' : Fp} {G G' G'' : List Addr}
theorem Stp.refl : Stp Φ H fp Φ H fp [] := ⟨Ext.refl, fun _ h => h.elim .inl fun z => nomatch z⟩
theorem Stp.trans (a : Stp Φ H fp Φ' H' fp' G') (b : Stp Φ' H' fp' Φ'' H'' fp'' G'') : Stp Φ H fp Φ'' H'' fp'' G'' where
  ext := a.ext.trans b.ext fun x h => a.sub x (.inl h)
  sub := fun x h => by
    rcases b.sub x h with h | h
    · exact a.sub x (.inl h)
    · exact .inr (a.ext.dom x h)
/-- .. the earlier temporaries kept -/
theorem Stp.trans2 (a : Stp Φ H fp Φ' H' fp' G') (b : Stp Φ' H' fp' Φ'' H'' fp'' G'') : Stp Φ H fp Φ'' H'' fp'' (G'' ++ G') where
  ext := a.ext.trans b.ext fun x h => a.sub x (.inl h)
  sub := fun x h => by
    rcases h with h | h
    · exact (a.trans b).sub x (.inl h)
    · rcases List.mem_append.mp h with h | h
      · exact (a.trans b).sub x (.inr h)
      · exact a.sub x (.inr h)
theorem Stp.less (a : Stp Φ H fp Φ' H' fp' G') (h : ∀ x ∈ G'', x ∈ G') : Stp Φ H fp Φ' H' fp' G'' := ⟨a.ext, fun x z => a.sub x (z.imp id (h x))⟩
theorem own_set {fp : Fp} {i : Nat} {l : List Addr} {a : Addr} (h : own (setF fp i l) a) : a ∈ l ∨ own fp a := by
  obtain ⟨j, h⟩ := h
  by_cases e : j = i
  · subst e; rw [setF_same] at h; exact .inl h
  · rw [setF_ne e] at h; exact .inr ⟨j, h⟩
/-- a slot is stored: its old addresses go, new ones come -/
theorem REnv.putE (r : REnv K fa Φ H σ ρ fp) {i : Nat} {v : V} {e : E} {l : List Addr} (hi : i < ρ.length) (re : RE K fa Φ H v e l) (nd : l.Nodup) (ap : ∀ a ∈ l, ∀ j, a ∈ fp j → j = i) :
    REnv K fa Φ H (σ.set i (some v)) (put ρ i (some e)) (setF fp i l) where
  at_ := fun j x h => by
    rw [look_put] at h
    by_cases e' : j = i
    · subst e'
      rw [if_pos ⟨rfl, hi⟩] at h
      cases h
      exact ⟨v, List.getElem?_set_self (by rw [r.len]; exact hi), by rw [setF_same]; exact re⟩
    · rw [if_neg (fun z => e' z.1)] at h
      obtain ⟨w, h1, h2⟩ := r.at_ j x h
      exact ⟨w, by rw [List.getElem?_set_ne (Ne.symm e')]; exact h1, by rw [setF_ne e']; exact h2⟩
  no := fun j h => by
    rw [look_put] at h
    by_cases e' : j = i
    · subst e'; rw [if_pos ⟨rfl, hi⟩] at h; cases h
    · rw [if_neg (fun z => e' z.1)] at h
      rw [setF_ne e']; exact r.no j h
  nd := fun j => by
    by_cases e' : j = i
    · subst e'; rw [setF_same]; exact nd
    · rw [setF_ne e']; exact r.nd j
  inj := fun j k a h1 h2 => by
    by_cases e1 : j = i
    · subst e1
      by_cases e2 : k = j
      · exact e2.symm
      · rw [setF_same] at h1
        rw [setF_ne e2] at h2
        exact (ap a h1 k h2).symm
    · rw [setF_ne e1] at h1
      by_cases e2 : k = i
      · subst e2
        rw [setF_same] at h2
        exact ap a h2 j h1
      · rw [setF_ne e2] at h2
        exact r.inj j k a h1 h2
  len := by rw [List.length_set, put_length]; exact r.len
/-- a slot is forgotten (what it owned goes) -/
theorem REnv.drop (r : REnv K fa Φ H σ ρ fp) (i : Nat) : REnv K fa Φ H σ (put ρ i none) (setF fp i []) where
  at_ := fun j x h => by
    rw [look_put] at h
    by_cases e' : j = i
    · subst e'
      by_cases hl : j < ρ.length
      · rw [if_pos ⟨rfl, hl⟩] at h; cases h
      · rw [if_neg (fun z => hl z.2)] at h
        exact absurd (look_lt h) hl
    · rw [if_neg (fun z => e' z.1)] at h
      obtain ⟨w, h1, h2⟩ := r.at_ j x h
      exact ⟨w, h1, by rw [setF_ne e']; exact h2⟩
  no := fun j h => by
    by_cases e' : j = i
    · subst e'; exact setF_same
    · rw [look_put, if_neg (fun z => e' z.1)] at h
      rw [setF_ne e']; exact r.no j h
  nd := fun j => by
    by_cases e' : j = i
    · subst e'; rw [setF_same]; exact List.nodup_nil
    · rw [setF_ne e']; exact r.nd j
  inj := fun j k a h1 h2 => by
    by_cases e1 : j = i
    · subst e1; rw [setF_same] at h1; cases h1
    · by_cases e2 : k = i
      · subst e2; rw [setF_same] at h2; cases h2
      · rw [setF_ne e1] at h1
        rw [setF_ne e2] at h2
        exact r.inj j k a h1 h2
  len := by rw [put_length]; exact r.len
/-- the slots stay where others' addresses change -/
theorem REnv.ext (r : REnv K fa Φ H σ ρ fp) {F : Addr → Prop} (w : Wd Φ H F) (x : Ext F Φ H Φ' H') (hn : ∀ a, own fp a → ¬ F a) : REnv K fa Φ' H' σ ρ fp :=
  ⟨fun i e h => let ⟨v, h1, h2⟩ := r.at_ i e h; ⟨v, h1, h2.ext w x fun a z => hn a ⟨i, z⟩⟩, r.no, r.nd, r.inj, r.len⟩
theorem Sta.temp (s : Sta K fa Φ H σ ρ fp G) : Sta K fa Φ H σ ρ fp [] :=
  ⟨s.env, s.wd.sub (fun a h => h.elim .inl fun z => nomatch z), List.nodup_nil, fun a z => nomatch z⟩

/-! ### freezing -/
theorem RRs.frz {bs : List Addr} {rows : List (List D)} (r : RRs K fa Φ H bs rows) : (∀ a ∈ bs, Φ a) → RDs K fa Φ H (bs.map V.ref) (rows.map D.lst) := by
  induction r with
  | nil => intro _; exact .nil
  | cons e r _ ih => intro h; exact .cons (.lst (h _ List.mem_cons_self) e r) (ih fun a z => h a (List.mem_cons_of_mem _ z))
/-- what a slot or a temporary holds, frozen -/
theorem RE.frz {v : V} {e : E} {l : List Addr} (r : RE K fa Φ H v e l) (hm : ∀ a, Φ a → Φ' a) (hl : ∀ a ∈ l, Φ' a) : RD K fa Φ' H v e.frz := by
  have y : Stay Φ H Φ' H := Stay.more hm
  cases r with
  | d r => exact r.stay y
  | l e r => exact .lst (hl _ List.mem_cons_self) e (r.stay y)
  | @ll a0 bs0 rows0 e r =>
    have r' : RRs K fa Φ' H bs0 rows0 := by
      have h0 : ∀ {bs : List Addr} {rows : List (List D)}, RRs K fa Φ H bs rows → RRs K fa Φ' H bs rows := by
        intro bs rows q
        induction q with
        | nil => exact .nil
        | cons e q _ ih => exact .cons e (q.stay y) ih
      exact h0 r
    exact .lst (hl _ List.mem_cons_self) e (r'.frz fun a z => hl a (List.mem_cons_of_mem _ z))
  | dk e r => exact .dk (hl _ List.mem_cons_self) e (r.stay y)
  | dt e r => exact .dt (hl _ List.mem_cons_self) e (r.stay y)
theorem RE.stay {v : V} {e : E} {l : List Addr} (r : RE K fa Φ H v e l) (hm : ∀ a, Φ a → Φ' a) : RE K fa Φ' H v e l := by
  have y : Stay Φ H Φ' H := Stay.more hm
  cases r with
  | d r => exact .d (r.stay y)
  | l e r => exact .l e (r.stay y)
  | ll e r =>
    have h0 : ∀ {bs : List Addr} {rows : List (List D)}, RRs K fa Φ H bs rows → RRs K fa Φ' H bs rows := by
      intro bs rows q
      induction q with
      | nil => exact .nil
      | cons e q _ ih => exact .cons e (q.stay y) ih
    exact .ll e (h0 r)
  | dk e r => exact .dk e (r.stay y)
  | dt e r => exact .dt e (r.stay y)
/-- more frozen addresses -/
def addF (Φ : Frz) (l : List Addr) : Frz := fun a => Φ a ∨ a ∈ l
theorem Ext.frz {F : Addr → Prop} {l : List Addr} (h : ∀ a ∈ l, F a) : Ext F Φ H (addF Φ l) H :=
  ⟨fun _ z => .inl z, fun a z => z.imp id fun q => .inl (h a q), fun _ _ e _ _ => e, fun _ z => z⟩
theorem Wd.frz {F F' : Addr → Prop} {l : List Addr} (w : Wd Φ H F) (h : ∀ a ∈ l, F a) (h' : ∀ a, F' a → F a ∧ a ∉ l) : Wd (addF Φ l) H F' :=
  ⟨fun a z q => q.elim (w.nf a (h' a z).1) (h' a z).2, fun a z => z.elim (w.tr a) fun q e => by have := w.mu a (h a q); rw [e] at this; exact this, fun a z => w.mu a (h' a z).1⟩
/-- a temporary is frozen -/
theorem Sta.frzT {l : List Addr} (s : Sta K fa Φ H σ ρ fp (l ++ G)) : Sta K fa (addF Φ l) H σ ρ fp G := by
  have nd := List.nodup_append.mp s.gnd
  refine ⟨⟨fun i e h => ?_, s.env.no, s.env.nd, s.env.inj, s.env.len⟩, s.wd.frz (fun a h => .inr (List.mem_append_left _ h)) fun a h => ?_, nd.2.1, fun a h => s.gn a (List.mem_append_right _ h)⟩
  · obtain ⟨v, h1, h2⟩ := s.env.at_ i e h
    exact ⟨v, h1, h2.stay fun _ z => .inl z⟩
  · refine ⟨h.imp id (List.mem_append_right _), fun q => ?_⟩
    rcases h with h | h
    · exact s.gn a (List.mem_append_left _ q) h
    · exact nd.2.2 a q a h rfl
/-- a slot is frozen -/
theorem Sta.frzS (s : Sta K fa Φ H σ ρ fp G) {i : Nat} {e : E} (h : look ρ i = some e) :
    ∃ v, σ[i]? = some (some v) ∧ RD K fa (addF Φ (fp i)) H v e.frz ∧ Sta K fa (addF Φ (fp i)) H σ (put ρ i (some (.d e.frz))) (setF fp i []) G ∧ Stp Φ H fp (addF Φ (fp i)) H (setF fp i []) [] := by
  obtain ⟨v, h1, h2⟩ := s.env.at_ i e h
  have rd : RD K fa (addF Φ (fp i)) H v e.frz := h2.frz (fun _ z => .inl z) fun a z => .inr z
  have e0 : σ.set i (some v) = σ := by
    apply List.ext_getElem?
    intro j
    by_cases q : j = i
    · subst q; rw [List.getElem?_set_self (List.getElem?_eq_some_iff.mp h1).1, h1]
    · rw [List.getElem?_set_ne (Ne.symm q)]
  have env1 : REnv K fa (addF Φ (fp i)) H σ ρ fp := ⟨fun j x z => let ⟨w, q1, q2⟩ := s.env.at_ j x z; ⟨w, q1, q2.stay fun _ z => .inl z⟩, s.env.no, s.env.nd, s.env.inj, s.env.len⟩
  have env2 := env1.putE (e := .d e.frz) (l := []) (look_lt h) (.d rd) List.nodup_nil fun a z => nomatch z
  rw [e0] at env2
  refine ⟨v, h1, rd, ⟨env2, s.wd.frz (fun a z => .inl ⟨i, z⟩) fun a z => ?_, s.gnd, fun a z q => ?_⟩, Ext.frz fun a z => ⟨i, z⟩, fun a z => .inl ?_⟩
  · rcases z with ⟨j, z⟩ | z
    · by_cases q : j = i
      · subst q; rw [setF_same] at z; cases z
      · rw [setF_ne q] at z
        exact ⟨.inl ⟨j, z⟩, fun z2 => q (s.env.inj j i a z z2)⟩
    · exact ⟨.inr z, fun q => s.gn a z ⟨i, q⟩⟩
  · rcases own_set q with q | q
    · cases q
    · exact s.gn a z q
  · rcases z with z | z
    · rcases own_set z with z | z
      · cases z
      · exact z
    · cases z
/-- temporaries are frozen on the way -/
theorem Stp.frz {l : List Addr} (a : Stp Φ H fp Φ' H' fp' (l ++ G')) : Stp Φ H fp (addF Φ' l) H' fp' G' where
  ext := ⟨fun x z => .inl (a.ext.mono x z), fun x z => by
    rcases z with z | z
    · exact a.ext.back x z
    · exact .inr (a.sub x (.inr (List.mem_append_left _ z))), a.ext.keep, a.ext.dom⟩
  sub := fun x z => a.sub x (z.imp id (List.mem_append_right _))
/-- waiting temporaries are left alone -/
theorem Sta.frame (s : Sta K fa Φ H σ ρ fp G) (st : Stp Φ H fp Φ' H' fp' G') (s' : Sta K fa Φ' H' σ' ρ' fp' G') : Sta K fa Φ' H' σ' ρ' fp' (G' ++ G) := by
  have ap : ∀ a ∈ G, ¬ own fp a ∧ H a ≠ none := fun a h => ⟨s.gn a h, fun e => by have := s.wd.mu a (.inr h); rw [e] at this; exact this⟩
  have ap' : ∀ a ∈ G, ¬ (own fp' a ∨ a ∈ G') := fun a h z => (st.sub a z).elim (ap a h).1 (ap a h).2
  refine ⟨s'.env, ⟨fun a h => ?_, s'.wd.tr, fun a h => ?_⟩, List.nodup_append.mpr ⟨s'.gnd, s.gnd, fun a ha b hb e => ap' b hb (.inr (e ▸ ha))⟩, fun a h => ?_⟩
  · have key : a ∈ G → ¬ Φ' a := fun h z => by
      rcases st.ext.back a z with z | z | z
      · exact s.wd.nf a (.inr h) z
      · exact (ap a h).1 z
      · exact (ap a h).2 z
    rcases h with h | h
    · exact s'.wd.nf a (.inl h)
    · rcases List.mem_append.mp h with h | h
      · exact s'.wd.nf a (.inr h)
      · exact key h
  · have key : a ∈ G → Mut (H' a) := fun h => by
      have m := s.wd.mu a (.inr h)
      cases e : H a with
      | none => rw [e] at m; exact m.elim
      | some o =>
        rw [e] at m
        rw [st.ext.keep a o e (ap a h).1 (fun ps z => by rw [z] at m; exact m)]
        exact m
    rcases h with h | h
    · exact s'.wd.mu a (.inl h)
    · rcases List.mem_append.mp h with h | h
      · exact s'.wd.mu a (.inr h)
      · exact key h
  · rcases List.mem_append.mp h with h | h
    · exact s'.gn a h
    · exact fun z => ap' a h (.inl z)
/-- what a waiting temporary is -/
theorem RE.wait {v : V} {e : E} {l : List Addr} (s : Sta K fa Φ H σ ρ fp G) (st : Stp Φ H fp Φ' H' fp' G') (r : RE K fa Φ H v e l) (h : ∀ a ∈ l, a ∈ G) : RE K fa Φ' H' v e l :=
  r.ext (F := own fp) (s.wd.sub fun _ z => .inl z) st.ext fun a z => s.gn a (h a z)
end
end EV
end
section
set_option linter.all false
set_option maxRecDepth 100000
/-! EvX: the readings of expressions by the evaluator; variables, constants, arguments, tests. -/
namespace EV
open PySem L2 PySem.Spec PyProof.Rows

section
variable {K : PySem.W.Frag} {fa : Nat → Addr} {Φ : Frz} {H : Hp} {v : V} {l : List Addr}
theorem RE.dI {x : D} (r : RE K fa Φ H v (.d x) l) : RD K fa Φ H v x ∧ l = [] := by cases r with | d r => exact ⟨r, rfl⟩
theorem RE.lI {xs : List D} (r : RE K fa Φ H v (.l xs) l) : ∃ a vs, v = .ref a ∧ l = [a] ∧ H a = some (.lst vs) ∧ RDs K fa Φ H vs xs := by cases r with | l e r => exact ⟨_, _, rfl, rfl, e, r⟩
theorem RE.llI {xs : List (List D)} (r : RE K fa Φ H v (.ll xs) l) : ∃ a bs, v = .ref a ∧ l = a :: bs ∧ H a = some (.lst (bs.map .ref)) ∧ RRs K fa Φ H bs xs := by cases r with | ll e r => exact ⟨_, _, rfl, rfl, e, r⟩
theorem RE.dkI {xs : List (Key × D)} (r : RE K fa Φ H v (.dk xs) l) : ∃ a ws, v = .ref a ∧ l = [a] ∧ H a = some (.dK ws) ∧ RDk K fa Φ H ws xs := by cases r with | dk e r => exact ⟨_, _, rfl, rfl, e, r⟩
theorem RE.dtI {xs : List (List Key × D)} (r : RE K fa Φ H v (.dt xs) l) : ∃ a ws, v = .ref a ∧ l = [a] ∧ H a = some (.dT ws) ∧ RDt K fa Φ H ws xs := by cases r with | dt e r => exact ⟨_, _, rfl, rfl, e, r⟩
end
/-- where one stands: the layer's context, the calls, the wish about exceptions, the tables of code objects, the defs' and the classes' addresses -/
structure Kx where
  X : Cx
  c : Calls
  wx : XK
  T : List (Addr × Str)
  fa : Nat → Addr
  ca : Nat → Addr
abbrev Kx.Sta (k : Kx) (Φ : Frz) (H : Hp) (σ : L2.St) (ρ : Env) (fp : Fp) (G : List Addr) : Prop := EV.Sta k.X.K k.fa Φ H σ ρ fp G
abbrev Kx.RE (k : Kx) (Φ : Frz) (H : Hp) (v : V) (e : E) (l : List Addr) : Prop := EV.RE k.X.K k.fa Φ H v e l
abbrev Kx.RD (k : Kx) (Φ : Frz) (H : Hp) (v : V) (d : D) : Prop := EV.RD k.X.K k.fa Φ H v d
abbrev Kx.RDs (k : Kx) (Φ : Frz) (H : Hp) (v : List V) (d : List D) : Prop := EV.RDs k.X.K k.fa Φ H v d
abbrev Kx.Tb (k : Kx) (H : Hp) : Prop := LamX.Tabs k.T H
/-- what is wanted where an expression ends -/
def PostE (k : Kx) (Φ : Frz) (H : Hp) (fp : Fp) (n : Nat) : Prop := ∀ Φ' H', Ext (own fp) Φ H Φ' H' → Wd Φ' H' (fun _ => False) → k.Tb H' → k.wx (.ref (k.ca n)) none H'
def PostX (k : Kx) (Φ : Frz) (H : Hp) (σ : L2.St) (fp : Fp) (Q : VK) : R (E × Env) → Prop
  | .ok (e, ρ') => ∀ v Φ' H' fp' G', Stp Φ H fp Φ' H' fp' G' → k.Sta Φ' H' σ ρ' fp' G' → k.RE Φ' H' v e G' → k.Tb H' → Q v H'
  | .exc n => PostE k Φ H fp n
  | .bad => False
/-- the reading of an expression, by its value here -/
def TX (k : Kx) (x : X) : TE := fun σ H Q => ∃ ρ Φ fp, k.Sta Φ H σ ρ fp [] ∧ k.Tb H ∧ PostX k Φ H σ fp Q (evX k.c x ρ)
abbrev PX (k : Kx) (e : Expr) (x : X) : Prop := PE k.X e (TX k x)
/-- .. of a test -/
def PostT (k : Kx) (Φ : Frz) (H : Hp) (σ : L2.St) (fp : Fp) (Q : Bool → Hp → Prop) : R (Bool × Env) → Prop
  | .ok (b, ρ') => ∀ Φ' H' fp', Stp Φ H fp Φ' H' fp' [] → k.Sta Φ' H' σ ρ' fp' [] → k.Tb H' → Q b H'
  | .exc n => PostE k Φ H fp n
  | .bad => False
def TT (k : Kx) (x : X) : L2.TT := fun σ H Q => ∃ ρ Φ fp, k.Sta Φ H σ ρ fp [] ∧ k.Tb H ∧ PostT k Φ H σ fp Q (isB (evX k.c x ρ))
abbrev PTX (k : Kx) (e : Expr) (x : X) : Prop := PT k.X e (TT k x)

section
variable {k : Kx}
theorem pe_of {X : Cx} {e : Expr} {t t' : TE} (h : PE X e t) (hh : ∀ σ H Q, t' σ H Q → t σ H Q) : PE X e t' := ⟨fun pins s σ H Q I q => h.run pins s σ H Q I (hh σ H Q q)⟩
theorem pt_of {X : Cx} {e : Expr} {t t' : L2.TT} (h : PT X e t) (hh : ∀ σ H Q, t' σ H Q → t σ H Q) : PT X e t' := ⟨fun pins s σ H Q I q => h.run pins s σ H Q I (hh σ H Q q)⟩
theorem px_cst_of {e : Expr} {v : V} {d : D} (h : PE k.X e (tC v)) (r : ∀ Φ H, k.RD Φ H v d) : PX k e (.cst d) :=
  pe_of h fun σ H Q ⟨ρ, Φ, fp, S, T, q⟩ => q v Φ H fp [] Stp.refl S (.d (r Φ H)) T
theorem px_int {i : Int} {j pos} : PX k (.Constant (.int i) j pos) (.cst (.int i)) := px_cst_of pe_int fun _ _ => .int i
theorem px_bl {b : Bool} {j pos} : PX k (.Constant (.bool b) j pos) (.cst (.bl b)) := px_cst_of pe_bl fun _ _ => .bl b
theorem px_non {j pos} : PX k (.Constant .none j pos) (.cst .non) := px_cst_of pe_non fun _ _ => .non
theorem px_str {x : Str} {j pos} : PX k (.Constant (.str x) j pos) (.cst (.str x)) := px_cst_of pe_str fun _ _ => .str x
/-- a module's int -/
theorem px_glb {x : Str} {n : Nat} {i : Int} {pos} (hg : Gl k.X x) (hm : ∃ t, k.X.mg x = some (.int i t)) (hd : (x == ("__debug__" : Str)) = false := by decide) : PX k (.Name x pos) (.glb n i) := by
  obtain ⟨t, hm⟩ := hm
  exact pe_of (pe_glob (v := .int i) hg hm ⟨t, rfl⟩ hd) fun σ H Q ⟨ρ, Φ, fp, S, T, q⟩ => q (.int i) Φ H fp [] Stp.refl S (.d (.int i)) T
/-- a def as a value -/
theorem px_fnv {x : Str} {f : Nat} {pos} (hg : Gl k.X x) (hm : k.X.mg x = some (.ref (k.fa f))) (hd : (x == ("__debug__" : Str)) = false := by decide) : PX k (.Name x pos) (.fnv f) :=
  pe_of (pe_glob (v := .ref (k.fa f)) hg hm rfl hd) fun σ H Q ⟨ρ, Φ, fp, S, T, q⟩ => q (.ref (k.fa f)) Φ H fp [] Stp.refl S (.d (.fn f)) T
/-- a name of the def's own -/
theorem px_var {e : Expr} {i : Nat} (h : PE k.X e (tVar i)) : PX k e (.var i) :=
  pe_of h fun σ H Q ⟨ρ, Φ, fp, S, T, q⟩ => by
    unfold evX at q
    cases hl : look ρ i with
    | none => rw [hl] at q; exact q.elim
    | some x =>
      rw [hl] at q
      have fz := S.frzS hl
      obtain ⟨v, h1, h2, h3, h4⟩ := fz
      have hard : PostX k Φ H σ fp Q (.ok (.d x.frz, put ρ i (some (.d x.frz)))) → ∃ v, σ[i]? = some (some v) ∧ Q v H := fun q => ⟨v, h1, q v _ H _ [] h4 h3 (.d h2) T⟩
      cases x with
      | d y =>
        obtain ⟨w, h5, h6⟩ := S.env.at_ i _ hl
        exact ⟨w, h5, q w Φ H fp [] Stp.refl S (.d h6.dI.1) T⟩
      | l xs => exact hard q
      | ll xs => exact hard q
      | dk xs => exact hard q
      | dt xs => exact hard q
/-- a name whose content is handed on -/
theorem px_mv {e : Expr} {i : Nat} (h : PE k.X e (tVar i)) : PX k e (.mv i) :=
  pe_of h fun σ H Q ⟨ρ, Φ, fp, S, T, q⟩ => by
    unfold evX at q
    cases hl : look ρ i with
    | none => rw [hl] at q; exact q.elim
    | some x =>
      rw [hl] at q
      obtain ⟨v, h1, h2⟩ := S.env.at_ i x hl
      have apart : ∀ a ∈ fp i, ¬ own (setF fp i []) a := fun a ha ⟨j, hj⟩ => by
        by_cases e : j = i
        · subst e; rw [setF_same] at hj; cases hj
        · rw [setF_ne e] at hj; exact e (S.env.inj j i a hj ha)
      have sub : ∀ a, own (setF fp i []) a → own fp a := fun a z => (own_set z).elim (fun z => nomatch z) id
      have all : ∀ a, own (setF fp i []) a ∨ a ∈ fp i → own fp a := fun a z => z.elim (sub a) fun z => ⟨i, z⟩
      exact ⟨v, h1, q v Φ H (setF fp i []) (fp i) ⟨Ext.refl, fun a z => .inl (all a z)⟩ ⟨S.env.drop i, S.wd.sub (fun a z => .inl (all a z)), S.env.nd i, apart⟩ h2 T⟩

/-! ### arguments -/
/-- the arguments' values: those of the slots are there, the others are temporaries -/
inductive RAs (K : PySem.W.Frag) (fa : Nat → Addr) (Φ : Frz) (H : Hp) (σ : L2.St) : List V → List Arg → List Addr → Prop
  | nil : RAs K fa Φ H σ [] [] []
  | s {v : V} {vs : List V} {i : Nat} {r : List Arg} {G : List Addr} : σ[i]? = some (some v) → RAs K fa Φ H σ vs r G → RAs K fa Φ H σ (v :: vs) (.s i :: r) G
  | v {v : V} {vs : List V} {e : E} {r : List Arg} {l G : List Addr} : EV.RE K fa Φ H v e l → RAs K fa Φ H σ vs r G → RAs K fa Φ H σ (v :: vs) (.v e :: r) (G ++ l)

/-- an argument's own expression, its reading -/
inductive PAs (k : Kx) : List Expr → As → Prop
  | nil : PAs k [] .nil
  | s {e : Expr} {es : List Expr} {i : Nat} {r : As} : PE k.X e (tVar i) → starEach (e :: es) k.X.env = (false, eval e k.X.env) :: starEach es k.X.env → PAs k es r → PAs k (e :: es) (.slt i r)
  | x {e : Expr} {es : List Expr} {x : X} {r : As} : PX k e x → starEach (e :: es) k.X.env = (false, eval e k.X.env) :: starEach es k.X.env → PAs k es r → PAs k (e :: es) (.x x r)
def tAs (k : Kx) : As → TA
  | .nil => tNil
  | .slt i r => tCons (tVar i) (tAs k r)
  | .x x r => tCons (TX k x) (tAs k r)
theorem PAs.pa {es : List Expr} {as : As} (h : PAs k es as) : PA k.X es (tAs k as) := by
  induction h with
  | nil => exact pa_nil
  | s h hs _ ih => exact pa_cons h ih hs
  | x h hs _ ih => exact pa_cons h ih hs
/-- what is wanted behind the arguments -/
def PostA (k : Kx) (Φ : Frz) (H : Hp) (σ : L2.St) (fp : Fp) (Q : List V → Hp → Prop) : R (List Arg × Env) → Prop
  | .ok (as, ρ') => ∀ vs Φ' H' fp' G', Stp Φ H fp Φ' H' fp' G' → k.Sta Φ' H' σ ρ' fp' G' → RAs k.X.K k.fa Φ' H' σ vs as G' → k.Tb H' → Q vs H'
  | .exc n => PostE k Φ H fp n
  | .bad => False
end
section
variable {k : Kx} {Φ Φ' : Frz} {H H' : Hp} {σ : L2.St} {ρ ρ' : Env} {fp fp' : Fp} {G G' : List Addr}
/-- an exception later on -/
theorem exc_later {n : Nat} (st : Stp Φ H fp Φ' H' fp' G') (h : PostE k Φ H fp n) : PostE k Φ' H' fp' n :=
  fun Φ'' H'' x w t => h Φ'' H'' (st.ext.trans x fun a z => st.sub a (.inl z)) w t
theorem RAs.ext {vs : List V} {as : List Arg} {l : List Addr} {K : PySem.W.Frag} {fa : Nat → Addr} (r : RAs K fa Φ H σ vs as l) {F : Addr → Prop} (w : Wd Φ H F) (x : Ext F Φ H Φ' H') (hn : ∀ a ∈ l, ¬ F a) : RAs K fa Φ' H' σ vs as l := by
  induction r with
  | nil => exact .nil
  | s e _ ih => exact .s e (ih hn)
  | v e _ ih => exact .v (e.ext w x fun a h => hn a (List.mem_append_right _ h)) (ih fun a h => hn a (List.mem_append_left _ h))
/-- the arguments from the left -/
theorem as_of : ∀ (as : As) {Φ : Frz} {H : Hp} {ρ : Env} {fp : Fp} {Q : List V → Hp → Prop}, k.Sta Φ H σ ρ fp [] → k.Tb H → PostA k Φ H σ fp Q (evAs k.c as ρ) → tAs k as σ H Q
  | .nil, Φ, H, ρ, fp, Q, S, T, q => q [] Φ H fp [] Stp.refl S .nil T
  | .slt i r, Φ, H, ρ, fp, Q, S, T, q => by
    unfold evAs at q
    show ∃ v, σ[i]? = some (some v) ∧ tAs k r σ H fun vs H' => Q (v :: vs) H'
    cases hl : look ρ i with
    | none => rw [hl] at q; exact q.elim
    | some e =>
      rw [hl] at q
      obtain ⟨v, h1, _⟩ := S.env.at_ i e hl
      refine ⟨v, h1, as_of r S T ?_⟩
      cases hr : evAs k.c r ρ with
      | bad => rw [hr] at q; exact q
      | exc n => rw [hr] at q; exact q
      | ok p =>
        rw [hr] at q
        exact fun vs Φ' H' fp' G' st S' ra T' => q (v :: vs) Φ' H' fp' G' st S' (.s h1 ra) T'
  | .x x r, Φ, H, ρ, fp, Q, S, T, q => by
    unfold evAs at q
    refine ⟨ρ, Φ, fp, S, T, ?_⟩
    cases hx : evX k.c x ρ with
    | bad => rw [hx] at q; exact q
    | exc n => rw [hx] at q; exact q
    | ok p =>
      obtain ⟨e, ρ1⟩ := p
      rw [hx] at q
      intro v Φ1 H1 fp1 G1 st S1 re T1
      refine as_of r S1.temp T1 ?_
      replace q : PostA k Φ H σ fp Q ((evAs k.c r ρ1).bind fun q => .ok (.v e :: q.1, q.2)) := q
      cases hr : evAs k.c r ρ1 with
      | bad => rw [hr] at q; exact q
      | exc n => rw [hr] at q; exact exc_later st q
      | ok p2 =>
        rw [hr] at q
        exact fun vs Φ2 H2 fp2 G2 st2 S2 ra T2 => q (v :: vs) Φ2 H2 fp2 (G2 ++ G1) (st.trans2 st2) (S1.frame st2 S2) (.v (RE.wait S1 st2 re fun _ z => z) ra) T2
end
end EV
end
section
set_option linter.all false
set_option maxRecDepth 100000
/-! EvPrim: operations without effect. -/
namespace EV
open PySem L2 PySem.Spec PyProof.Rows
section
variable (K : PySem.W.Frag) (fa : Nat → Addr)
/-- read only: the outermost list or dict may be somebody's own -/
inductive RV (Φ : Frz) (H : Hp) : V → D → Prop
  | of {v : V} {d : D} : RD K fa Φ H v d → RV Φ H v d
  | lst {a : Addr} {vs : List V} {xs : List D} : H a = some (.lst vs) → RDs K fa Φ H vs xs → RV Φ H (.ref a) (.lst xs)
  | dk {a : Addr} {ws : List (Key × V)} {kvs : List (Key × D)} : H a = some (.dK ws) → RDk K fa Φ H ws kvs → RV Φ H (.ref a) (.dk kvs)
  | dt {a : Addr} {ws : List (List Key × V)} {kvs : List (List Key × D)} : H a = some (.dT ws) → RDt K fa Φ H ws kvs → RV Φ H (.ref a) (.dt kvs)
inductive RVs (Φ : Frz) (H : Hp) : List V → List D → Prop
  | nil : RVs Φ H [] []
  | cons {v : V} {vs : List V} {d : D} {ds : List D} : RV K fa Φ H v d → RVs Φ H vs ds → RVs Φ H (v :: vs) (d :: ds)
end
/-- new objects alone; those at G are ours -/
structure Fresh (H H' : Hp) (G : List Addr) : Prop where
  keep : ∀ b o, H b = some o → H' b = some o
  new : ∀ a ∈ G, H a = none ∧ Mut (H' a)
  nd : G.Nodup
theorem Fresh.refl {H : Hp} : Fresh H H [] := ⟨fun _ _ h => h, fun _ z => (nomatch z), List.nodup_nil⟩
theorem Fresh.one {H : Hp} {p : Addr} {o : HO} (h : H p = none) (m : Mut (some o)) : Fresh H (upd H p o) [p] :=
  ⟨fun b u e => by rw [upd_ne (ne_of_none e h)]; exact e, fun a z => by rw [List.mem_singleton.mp z, upd_same]; exact ⟨h, m⟩, by simp⟩
theorem Fresh.tup {H : Hp} {p : Addr} {o : HO} (h : H p = none) : Fresh H (upd H p o) [] :=
  ⟨fun b u e => by rw [upd_ne (ne_of_none e h)]; exact e, fun _ z => (nomatch z), List.nodup_nil⟩
theorem Fresh.stay {H H' : Hp} {G : List Addr} {Φ : Frz} (f : Fresh H H' G) : Stay Φ H Φ H' := ⟨fun _ z => z, fun b o e _ _ => f.keep b o e, fun b o e _ _ => f.keep b o e⟩
theorem Fresh.dom {H H' : Hp} {G : List Addr} (f : Fresh H H' G) {b : Addr} (e : H' b = none) : H b = none := by
  cases q : H b with
  | none => rfl
  | some o => rw [f.keep b o q] at e; cases e
section
variable {k : Kx} {Φ Φ' : Frz} {H H' : Hp} {σ : L2.St} {ρ ρ' : Env} {fp fp' : Fp} {G G' : List Addr}
theorem Sta.fresh {K : PySem.W.Frag} {fa : Nat → Addr} (s : Sta K fa Φ H σ ρ fp []) (f : Fresh H H' G) : Sta K fa Φ H' σ ρ fp G ∧ Stp Φ H fp Φ H' fp G := by
  have x : Ext (own fp) Φ H Φ H' := ⟨fun _ z => z, fun _ z => .inl z, fun b o e _ _ => f.keep b o e, fun b e => f.dom e⟩
  have nf : ∀ a ∈ G, ¬ Φ a := fun a h z => s.wd.tr a z (f.new a h).1
  have no : ∀ a ∈ G, ¬ own fp a := fun a h z => by have := s.wd.mu a (.inl z); rw [(f.new a h).1] at this; exact this
  refine ⟨⟨⟨fun i e h => ?_, s.env.no, s.env.nd, s.env.inj, s.env.len⟩, ⟨fun a h => h.elim (fun z => s.wd.nf a (.inl z)) (nf a), fun a z e => s.wd.tr a z (f.dom e), fun a h => h.elim (fun z => ?_) fun z => (f.new a z).2⟩, f.nd, no⟩, x, fun a h => h.elim .inl fun z => .inr (f.new a z).1⟩
  · obtain ⟨v, h1, h2⟩ := s.env.at_ i e h
    exact ⟨v, h1, h2.ext (F := fun _ => False) ⟨fun _ z => z.elim, s.wd.tr, fun _ z => z.elim⟩ ⟨fun _ z => z, fun _ z => .inl z, fun b o e _ _ => f.keep b o e, fun b e => f.dom e⟩ fun _ _ z => z⟩
  · have m := s.wd.mu a (.inl z)
    cases e : H a with
    | none => rw [e] at m; exact m.elim
    | some o => rw [e] at m; rw [f.keep a o e]; exact m
/-- what is wanted behind an operation -/
def Out (k : Kx) (Φ : Frz) (H : Hp) (e : E) (Q : VK) : Prop := ∀ v H' G, Fresh H H' G → k.RE Φ H' v e G → Q v H'
def PrimR (k : Kx) (r : List V → Hp → VK → Prop) (f : List D → Option E) : Prop := ∀ (Φ : Frz) (H : Hp) (vs : List V) (ds : List D) (e : E) (Q : VK), RVs k.X.K k.fa Φ H vs ds → f ds = some e → Out k Φ H e Q → r vs H Q
theorem Out.d {v : V} {x : D} {Q : VK} (o : Out k Φ H (.d x) Q) (r : k.RD Φ H v x) : Q v H := o v H [] Fresh.refl (.d r)
theorem Out.l {vs : List V} {xs : List D} {Q : VK} (o : Out k Φ H (.l xs) Q) (r : k.RDs Φ H vs xs) : ∀ p, H p = none → Q (.ref p) (upd H p (.lst vs)) := fun p hp => by
  have f : Fresh H (upd H p (.lst vs)) [p] := Fresh.one hp trivial
  exact o _ _ _ f (.l upd_same (r.stay f.stay))
theorem Out.tup {vs : List V} {xs : List D} {Q : VK} (o : Out k Φ H (.d (.tup xs)) Q) (r : k.RDs Φ H vs xs) : ∀ p, H p = none → Q (.ref p) (upd H p (.tup vs)) := fun p hp => by
  have f : Fresh H (upd H p (.tup vs)) [] := Fresh.tup hp
  exact o _ _ _ f (.d (.tup upd_same (r.stay f.stay)))

/-- the arguments as they are read -/
theorem fill_ok {l : List Addr} {K : PySem.W.Frag} {fa : Nat → Addr} (s : Sta K fa Φ H σ ρ fp G) {vs : List V} {as : List Arg} (ra : RAs K fa Φ H σ vs as l) : ∀ {ds : List D}, (∀ a ∈ l, a ∈ G) → fillD ρ as = some ds → RVs K fa (addF Φ G) H vs ds := by
  induction ra with
  | nil => intro ds _ h; cases h; exact .nil
  | @s v vs i r G' h1 ra ih =>
    intro ds hl h
    unfold fillD at h
    cases e : look ρ i with
    | none => rw [e] at h; cases h
    | some x =>
      rw [e] at h
      obtain ⟨w, h2, re⟩ := s.env.at_ i x e
      have ew : w = v := by rw [h1] at h2; exact (Option.some.inj (Option.some.inj h2)).symm
      subst ew
      have st : Stay Φ H (addF Φ G) H := Stay.more fun _ z => .inl z
      cases f : fillD ρ r with
      | none => rw [f] at h; cases hx : E.rd x <;> (rw [Option.bind_some, hx] at h; cases h)
      | some b =>
        rw [f] at h
        have ih' := ih hl f
        cases x with
        | d x => cases h; exact .cons (.of (re.dI.1.stay st)) ih'
        | l xs =>
          cases h
          obtain ⟨a, ws, rfl, _, h3, h4⟩ := re.lI
          exact .cons (.lst h3 (h4.stay st)) ih'
        | ll xs => cases h
        | dk xs =>
          cases h
          obtain ⟨a, ws, rfl, _, h3, h4⟩ := re.dkI
          exact .cons (.dk h3 (h4.stay st)) ih'
        | dt xs =>
          cases h
          obtain ⟨a, ws, rfl, _, h3, h4⟩ := re.dtI
          exact .cons (.dt h3 (h4.stay st)) ih'
  | @v v vs e r l G' re ra ih =>
    intro ds hl h
    unfold fillD at h
    cases f : fillD ρ r with
    | none => rw [f] at h; cases h
    | some b =>
      rw [f] at h
      cases h
      exact .cons (.of (re.frz (fun _ z => .inl z) fun a z => .inr (hl a (List.mem_append_right _ z)))) (ih (fun a z => hl a (List.mem_append_left _ z)) f)
theorem Sta.frzAll {K : PySem.W.Frag} {fa : Nat → Addr} (s : Sta K fa Φ H σ ρ fp G) : Sta K fa (addF Φ G) H σ ρ fp [] := by
  have s' : Sta K fa Φ H σ ρ fp (G ++ []) := by rw [List.append_nil]; exact s
  exact s'.frzT
theorem Stp.frzAll {H0 : Hp} {Φ0 : Frz} {fp0 : Fp} (a : Stp Φ0 H0 fp0 Φ H fp G) : Stp Φ0 H0 fp0 (addF Φ G) H fp [] := by
  have a' : Stp Φ0 H0 fp0 Φ H fp (G ++ []) := by rw [List.append_nil]; exact a
  exact a'.frz
/-- an expression's own rule over its arguments -/
abbrev AR (k : Kx) (e : Expr) (as : As) (r : List V → Hp → VK → Prop) : Prop := PE k.X e (fun σ H Q => tAs k as σ H fun vs H1 => r vs H1 Q)
theorem px_pr {e : Expr} {p : Prim} {as : As} {r : List V → Hp → VK → Prop} (h : AR k e as r) (hp : PrimR k r (prim p)) : PX k e (.pr p as) :=
  pe_of h fun σ H Q ⟨ρ, Φ, fp, S, T, q⟩ => as_of as S T (by
    unfold evX at q
    cases ha : evAs k.c as ρ with
    | bad => rw [ha] at q; exact q
    | exc n => rw [ha] at q; exact q
    | ok x =>
      obtain ⟨args, ρ1⟩ := x
      rw [ha] at q
      intro vs Φ1 H1 fp1 G1 st S1 ra T1
      replace q : PostX k Φ H σ fp Q ((R.ofO ((fillD ρ1 args).bind (prim p))).bind fun e => .ok (e, ρ1)) := q
      cases hf : fillD ρ1 args with
      | none => rw [hf] at q; exact q.elim
      | some ds =>
        rw [hf, Option.bind_some] at q
        cases hd : prim p ds with
        | none => rw [hd] at q; exact q.elim
        | some e =>
          rw [hd] at q
          refine hp (addF Φ1 G1) H1 vs ds e Q (fill_ok S1 ra (fun _ z => z) hf) hd fun v H' G fr re => ?_
          obtain ⟨S2, st2⟩ := S1.frzAll.fresh fr
          exact q v _ H' fp1 G (st.frzAll.trans st2) S2 re (T1.ext fr.keep))

/-! ### rules over arguments -/
def bin2 (r : R2) : List V → Hp → VK → Prop := fun vs H Q => match vs with
  | [x, y] => r x y H Q
  | _ => False
def un1 (r : V → Hp → VK → Prop) : List V → Hp → VK → Prop := fun vs H Q => match vs with
  | [x] => r x H Q
  | _ => False
def tA (k : Kx) : As → TE
  | .slt i _ => tVar i
  | .x x _ => TX k x
  | .nil => fun _ _ _ => False
theorem pas2 {a b : Expr} {as : As} (h : PAs k [a, b] as) : ∃ ta tb, PE k.X a ta ∧ PE k.X b tb ∧ tAs k as = tCons ta (tCons tb tNil) := by
  cases h with
  | s h1 _ h => cases h with
    | s h2 _ h => cases h; exact ⟨_, _, h1, h2, rfl⟩
    | x h2 _ h => cases h; exact ⟨_, _, h1, h2, rfl⟩
  | x h1 _ h => cases h with
    | s h2 _ h => cases h; exact ⟨_, _, h1, h2, rfl⟩
    | x h2 _ h => cases h; exact ⟨_, _, h1, h2, rfl⟩
theorem pas1 {a : Expr} {as : As} (h : PAs k [a] as) : ∃ ta, PE k.X a ta ∧ tAs k as = tCons ta tNil := by
  cases h with
  | s h1 _ h => cases h; exact ⟨_, h1, rfl⟩
  | x h1 _ h => cases h; exact ⟨_, h1, rfl⟩
theorem ar_bin {a b : Expr} {as : As} {op : Operator} {r : R2} {pos : Pos} (ho : OpR k.X (binaryOp op) r) (h : PAs k [a, b] as) : AR k (.BinOp a op b pos) as (bin2 r) := by
  obtain ⟨ta, tb, h1, h2, e⟩ := pas2 h
  show PE k.X _ fun σ H Q => tAs k as σ H fun vs H1 => bin2 r vs H1 Q
  rw [e]
  exact pe_op ho h1 h2
theorem ar_cmp {a b : Expr} {as : As} {op : CmpOp} {r : R2} {pos : Pos} (ho : OpR k.X (compareOp op) r) (h : PAs k [a, b] as) (hm : behindInMarks op b = false) : AR k (.Compare a [op] [b] pos) as (bin2 r) := by
  obtain ⟨ta, tb, h1, h2, e⟩ := pas2 h
  show PE k.X _ fun σ H Q => tAs k as σ H fun vs H1 => bin2 r vs H1 Q
  rw [e]
  exact pe_cmpR ho h1 h2 hm
theorem ar_un {a : Expr} {as : As} {op : UnaryOp} {r : V → Hp → VK → Prop} {pos : Pos} (ho : UnR k.X (unaryOp op) r) (h : PAs k [a] as) : AR k (.UnaryOp op a pos) as (un1 r) := by
  obtain ⟨ta, h1, e⟩ := pas1 h
  show PE k.X _ fun σ H Q => tAs k as σ H fun vs H1 => un1 r vs H1 Q
  rw [e]
  exact pe_un ho h1
theorem ar_ix {a b : Expr} {as : As} {r : R2} {pos : Pos} (ho : IxR k.X r) (h : PAs k [a, b] as) (hs : PlainIx b) : AR k (.Subscript a b pos) as (bin2 r) := by
  obtain ⟨ta, tb, h1, h2, e⟩ := pas2 h
  show PE k.X _ fun σ H Q => tAs k as σ H fun vs H1 => bin2 r vs H1 Q
  rw [e]
  exact pe_ix ho h1 h2 hs
theorem ar_tup {es : List Expr} {as : As} {n : Nat} {pos : Pos} (h : PAs k es as) : AR k (.Tuple es n pos) as (fun xs H Q => xs.length ≤ sizeLine ∧ ∀ p, H p = none → Q (.ref p) (upd H p (.tup xs))) := pe_tup h.pa
theorem ar_lst {es : List Expr} {as : As} {pos : Pos} (h : PAs k es as) : AR k (.List es pos) as (fun xs H Q => xs.length ≤ sizeLine ∧ ∀ p, H p = none → Q (.ref p) (upd H p (.lst xs))) := pe_lst h.pa
end
end EV
end
section
set_option linter.all false
set_option maxRecDepth 100000
/-! EvOps: the operations' rules. -/
namespace EV
open PySem L2 PySem.Spec PyProof.Rows
section
variable {K : PySem.W.Frag} {fa : Nat → Addr} {Φ : Frz} {H : Hp} {v : V}
theorem RV.intI {i : Int} (r : RV K fa Φ H v (.int i)) : v = .int i := by cases r with | of r => cases r; rfl
theorem RV.blI {i : Bool} (r : RV K fa Φ H v (.bl i)) : v = .bl i := by cases r with | of r => cases r; rfl
theorem RV.strI {i : Str} (r : RV K fa Φ H v (.str i)) : v = .str i := by cases r with | of r => cases r; rfl
theorem RV.nonI (r : RV K fa Φ H v .non) : v = .non := by cases r with | of r => cases r; rfl
theorem RV.lstI {xs : List D} (r : RV K fa Φ H v (.lst xs)) : ∃ a vs, v = .ref a ∧ H a = some (.lst vs) ∧ RDs K fa Φ H vs xs := by
  cases r with
  | of r => cases r with | lst f e r => exact ⟨_, _, rfl, e, r⟩
  | lst e r => exact ⟨_, _, rfl, e, r⟩
theorem RV.tupI {xs : List D} (r : RV K fa Φ H v (.tup xs)) : ∃ a vs, v = .ref a ∧ H a = some (.tup vs) ∧ RDs K fa Φ H vs xs := by
  cases r with
  | of r => cases r with | tup e r => exact ⟨_, _, rfl, e, r⟩
theorem RV.dkI {xs : List (Key × D)} (r : RV K fa Φ H v (.dk xs)) : ∃ a ws, v = .ref a ∧ H a = some (.dK ws) ∧ RDk K fa Φ H ws xs := by
  cases r with
  | of r => cases r with | dk f e r => exact ⟨_, _, rfl, e, r⟩
  | dk e r => exact ⟨_, _, rfl, e, r⟩
theorem RV.dtI {xs : List (List Key × D)} (r : RV K fa Φ H v (.dt xs)) : ∃ a ws, v = .ref a ∧ H a = some (.dT ws) ∧ RDt K fa Φ H ws xs := by
  cases r with
  | of r => cases r with | dt f e r => exact ⟨_, _, rfl, e, r⟩
  | dt e r => exact ⟨_, _, rfl, e, r⟩
theorem RVs.nilI {vs : List V} (r : RVs K fa Φ H vs []) : vs = [] := by cases r; rfl
theorem RVs.consI {vs : List V} {d : D} {ds : List D} (r : RVs K fa Φ H vs (d :: ds)) : ∃ v r', vs = v :: r' ∧ RV K fa Φ H v d ∧ RVs K fa Φ H r' ds := by cases r with | cons a b => exact ⟨_, _, rfl, a, b⟩
theorem RVs.one {vs : List V} {d : D} (r : RVs K fa Φ H vs [d]) : ∃ v, vs = [v] ∧ RV K fa Φ H v d := by
  obtain ⟨v, r', rfl, a, b⟩ := r.consI
  rw [b.nilI]
  exact ⟨v, rfl, a⟩
theorem RVs.two {vs : List V} {d e : D} (r : RVs K fa Φ H vs [d, e]) : ∃ v w, vs = [v, w] ∧ RV K fa Φ H v d ∧ RV K fa Φ H w e := by
  obtain ⟨v, r', rfl, a, b⟩ := r.consI
  obtain ⟨w, rfl, b'⟩ := b.one
  exact ⟨v, w, rfl, a, b'⟩
theorem RVs.three {vs : List V} {d e f : D} (r : RVs K fa Φ H vs [d, e, f]) : ∃ v w u, vs = [v, w, u] ∧ RV K fa Φ H v d ∧ RV K fa Φ H w e ∧ RV K fa Φ H u f := by
  obtain ⟨v, r', rfl, a, b⟩ := r.consI
  obtain ⟨w, u, rfl, b', c⟩ := b.two
  exact ⟨v, w, u, rfl, a, b', c⟩
theorem RDs.length {vs : List V} {ds : List D} (r : RDs K fa Φ H vs ds) : vs.length = ds.length := by
  induction ds generalizing vs with
  | nil => cases r; rfl
  | cons d ds ih => cases r with | cons a b => rw [List.length_cons, List.length_cons, ih b]
theorem RDs.append {vs ws : List V} {ds es : List D} (r : RDs K fa Φ H vs ds) (q : RDs K fa Φ H ws es) : RDs K fa Φ H (vs ++ ws) (ds ++ es) := by
  induction ds generalizing vs with
  | nil => cases r; exact q
  | cons d ds ih => cases r with | cons a b => exact .cons a (ih b)
theorem RDs.get {vs : List V} {ds : List D} (r : RDs K fa Φ H vs ds) {i : Nat} {d : D} (h : ds[i]? = some d) : ∃ v, vs[i]? = some v ∧ RD K fa Φ H v d := by
  induction ds generalizing vs i with
  | nil => cases h
  | cons e ds ih =>
    cases r with
    | cons a b =>
      cases i with
      | zero => cases h; exact ⟨_, rfl, a⟩
      | succ i => exact ih b h
theorem RDs.take {vs : List V} {ds : List D} (r : RDs K fa Φ H vs ds) (n : Nat) : RDs K fa Φ H (vs.take n) (ds.take n) := by
  induction ds generalizing vs n with
  | nil => cases r; cases n <;> exact .nil
  | cons d ds ih => cases r with | cons a b => cases n with | zero => exact .nil | succ n => exact .cons a (ih b n)
theorem RDs.drop {vs : List V} {ds : List D} (r : RDs K fa Φ H vs ds) (n : Nat) : RDs K fa Φ H (vs.drop n) (ds.drop n) := by
  induction ds generalizing vs n with
  | nil => cases r; cases n <;> exact .nil
  | cons d ds ih => cases r with | cons a b => cases n with | zero => exact .cons a b | succ n => exact ih b n
theorem RDs.reverse {vs : List V} {ds : List D} (r : RDs K fa Φ H vs ds) : RDs K fa Φ H vs.reverse ds.reverse := by
  induction ds generalizing vs with
  | nil => cases r; exact .nil
  | cons d ds ih => cases r with | cons a b => rw [List.reverse_cons, List.reverse_cons]; exact (ih b).append (.cons a .nil)
theorem RDs.set {vs : List V} {ds : List D} (r : RDs K fa Φ H vs ds) (i : Nat) {v : V} {d : D} (q : RD K fa Φ H v d) : RDs K fa Φ H (vs.set i v) (ds.set i d) := by
  induction ds generalizing vs i with
  | nil => cases r; exact .nil
  | cons e ds ih => cases r with | cons a b => cases i with | zero => exact .cons q b | succ i => exact .cons a (ih b i)
theorem RDs.erase {vs : List V} {ds : List D} (r : RDs K fa Φ H vs ds) (i : Nat) : RDs K fa Φ H (vs.eraseIdx i) (ds.eraseIdx i) := by
  induction ds generalizing vs i with
  | nil => cases r; exact .nil
  | cons e ds ih => cases r with | cons a b => cases i with | zero => exact b | succ i => exact .cons a (ih b i)
theorem RDs.dropLast {vs : List V} {ds : List D} (r : RDs K fa Φ H vs ds) : RDs K fa Φ H vs.dropLast ds.dropLast := by
  rw [List.dropLast_eq_take, List.dropLast_eq_take, r.length]; exact r.take _
theorem RDs.rep {vs : List V} {ds : List D} (r : RDs K fa Φ H vs ds) : ∀ n : Nat, RDs K fa Φ H (List.replicate n vs).flatten (List.replicate n ds).flatten
  | 0 => .nil
  | n + 1 => by rw [List.replicate_succ, List.replicate_succ, List.flatten_cons, List.flatten_cons]; exact r.append (RDs.rep r n)
theorem RDs.cut {vs : List V} {ds : List D} (r : RDs K fa Φ H vs ds) (lo hi : Option Int) : RDs K fa Φ H (cutV vs lo hi) (cut ds lo hi) := by
  unfold cutV EV.cut
  rw [r.length]
  exact (r.drop _).take _
theorem atI_len {α β : Type} {xs : List α} {ys : List β} (h : xs.length = ys.length) (i : Int) : ixN xs.length i = ixN ys.length i := by rw [h]
theorem RDs.ix {vs : List V} {ds : List D} (r : RDs K fa Φ H vs ds) {i : Int} {d : D} (h : ixD ds i = some d) : ∃ v, atI vs i = some v ∧ RD K fa Φ H v d := by
  unfold ixD at h
  unfold atI
  rw [r.length]
  cases e : ixN ds.length i with
  | none => rw [e] at h; cases h
  | some j => rw [e, Option.bind_some] at h; rw [Option.bind_some]; exact r.get h
theorem RDs.ints {vs : List V} {ds : List D} (r : RDs K fa Φ H vs ds) {ns : List Int} (h : asI ds = some ns) : vs = ns.map V.int := by
  induction ds generalizing vs ns with
  | nil => cases r; cases h; rfl
  | cons d ds ih =>
    cases r with
    | cons a b =>
      cases d <;> try (cases h; done)
      cases a
      simp only [asI] at h
      cases e : asI ds with
      | none => rw [e] at h; cases h
      | some ms => rw [e] at h; cases h; rw [ih b e]; rfl
theorem RDs.bools {vs : List V} {ds : List D} (r : RDs K fa Φ H vs ds) {ns : List Bool} (h : asB ds = some ns) : vs = ns.map V.bl := by
  induction ds generalizing vs ns with
  | nil => cases r; cases h; rfl
  | cons d ds ih =>
    cases r with
    | cons a b =>
      cases d <;> try (cases h; done)
      cases a
      simp only [asB] at h
      cases e : asB ds with
      | none => rw [e] at h; cases h
      | some ms => rw [e] at h; cases h; rw [ih b e]; rfl
theorem RDs.ofInts (ns : List Int) : RDs K fa Φ H (ns.map V.int) (ns.map D.int) := by
  induction ns with
  | nil => exact .nil
  | cons n ns ih => exact .cons (.int n) ih
mutual
theorem RD.dp : ∀ {v : V} {d : D} {p : PyData}, RD K fa Φ H v d → d.py = some p → Dp K H v p
  | _, _, _, .non, h => by cases h; exact .non
  | _, _, _, .bl b, h => by cases h; exact .bl b
  | _, _, _, .int b, h => by cases h; exact .int b
  | _, _, _, .str b, h => by cases h; exact .str b
  | _, .tup xs, p, .tup e r, h => by
    simp only [D.py] at h
    cases q : pyL xs with
    | none => rw [q] at h; cases h
    | some ps => rw [q] at h; cases h; exact .tup (SqT.of e) (RDs.dp r q)
  | _, .lst xs, p, .lst _ e r, h => by
    simp only [D.py] at h
    cases q : pyL xs with
    | none => rw [q] at h; cases h
    | some ps => rw [q] at h; cases h; exact .lst (SqL.of e) (RDs.dp r q)
  | _, _, _, .dk _ _ _, h => by cases h
  | _, _, _, .dt _ _ _, h => by cases h
  | _, _, _, .scrF _, h => by cases h
  | _, _, _, .scrK _ _ _ _ _ _, h => by cases h
  | _, _, _, .scrL _ _, h => by cases h
  | _, _, _, .fn _, h => by cases h
theorem RDs.dp : ∀ {vs : List V} {ds : List D} {ps : List PyData}, RDs K fa Φ H vs ds → pyL ds = some ps → DpAll K H vs ps
  | _, _, _, .nil, h => by cases h; exact .nil
  | _, d :: ds, _, .cons a b, h => by
    simp only [pyL] at h
    cases q : d.py with
    | none => rw [q] at h; cases h
    | some p =>
      cases q2 : pyL ds with
      | none => rw [q, q2] at h; cases h
      | some ps => rw [q, q2] at h; cases h; exact .cons (RD.dp a q) (RDs.dp b q2)
end
theorem RV.dp {v : V} {d : D} {p : PyData} (r : RV K fa Φ H v d) (h : d.py = some p) : Dp K H v p := by
  cases r with
  | of r => exact r.dp h
  | @lst a vs xs e r =>
    simp only [D.py] at h
    cases q : pyL xs with
    | none => rw [q] at h; cases h
    | some ps => rw [q] at h; cases h; exact .lst (SqL.of e) (r.dp q)
  | dk _ _ => cases h
  | dt _ _ => cases h
end
theorem OutD {k : Kx} {Φ : Frz} {H : Hp} {v : V} {x : D} {Q : VK} (o : Out k Φ H (.d x) Q) (r : k.RD Φ H v x) : Q v H := o.d r

section
variable {k : Kx}
/-! ### ints -/
theorem few_ok {n : Nat} (h : few n = true) : n ≤ sizeLine := by
  have := of_decide_eq_true h
  rw [sizeLine_eq]; omega
theorem few_lt {n : Nat} (h : few n = true) : n < sizeLine := by
  have := of_decide_eq_true h
  rw [sizeLine_eq]; omega
def rAddAll (K : PySem.W.Frag) : R2 := fun x y H Q => rI0 (fun i j => .int (i + j)) x y H Q ∨ (∃ i j, x = .str i ∧ y = .str j ∧ i.length + j.length ≤ sizeLine ∧ Q (.str (i ++ j)) H) ∨ rCat x y H Q ∨ rCatA K x y H Q
theorem op_addAll : OpR k.X (binaryOp .Add) (rAddAll k.X.K) := op_add.or (op_add_str.or (op_cat.or op_catA))
theorem prim_add : PrimR k (bin2 (rAddAll k.X.K)) (prim .add) := by
  intro Φ H vs ds e Q R h o
  change pAdd ds = some e at h
  unfold pAdd at h
  split at h
  · obtain ⟨v, w, rfl, a, b⟩ := R.two
    cases h
    exact .inl ⟨_, _, a.intI, b.intI, o.d (.int _)⟩
  · split at h
    · rename_i hl
      obtain ⟨v, w, rfl, a, b⟩ := R.two
      cases h
      have := of_decide_eq_true hl
      exact .inr (.inl ⟨_, _, a.strI, b.strI, by rw [sizeLine_eq]; omega, o.d (.str _)⟩)
    · cases h
  · split at h
    · rename_i hl
      obtain ⟨v, w, rfl, a, b⟩ := R.two
      cases h
      obtain ⟨p, xs, rfl, e1, r1⟩ := a.lstI
      obtain ⟨q, ys, rfl, e2, r2⟩ := b.lstI
      exact .inr (.inr (.inl ⟨p, q, xs, ys, rfl, rfl, e1, e2, by rw [r1.length, r2.length]; exact few_ok hl, o.l (r1.append r2)⟩))
    · cases h
  · split at h
    · rename_i hl
      obtain ⟨v, w, rfl, a, b⟩ := R.two
      cases h
      obtain ⟨p, xs, rfl, e1, r1⟩ := a.tupI
      obtain ⟨q, ys, rfl, e2, r2⟩ := b.tupI
      refine .inr (.inr (.inr ⟨p, q, xs, ys, rfl, rfl, SqT.of e1, SqT.of e2, by rw [r1.length, r2.length]; exact few_ok hl, ?_, ?_, ?_⟩))
      · intro z
        subst z
        cases r1
        exact o.d (.tup e2 r2)
      · intro _ z
        subst z
        cases r2
        rw [List.append_nil] at o
        exact o.d (.tup e1 r1)
      · intro _ _
        exact o.tup (r1.append r2)
    · cases h
  · cases h
theorem prim_ints2 {f : List D → Option E} {r : R2} (h : ∀ ds e, f ds = some e → ∃ i j x, ds = [.int i, .int j] ∧ e = .d x ∧ ∀ (H : Hp) (Q : VK), (∀ v, (∀ Φ, k.RD Φ H v x) → Q v H) → r (.int i) (.int j) H Q) : PrimR k (bin2 r) f := by
  intro Φ H vs ds e Q R hd o
  obtain ⟨i, j, x, rfl, rfl, hq⟩ := h ds e hd
  obtain ⟨v, w, rfl, a, b⟩ := R.two
  rw [a.intI, b.intI]
  exact hq H Q fun v hv => o.d (hv Φ)
theorem prim_sub : PrimR k (bin2 (rI0 fun i j => .int (i - j))) (prim .sub) := prim_ints2 fun ds e h => by
  change pSub ds = some e at h
  unfold pSub at h
  split at h
  · rename_i i j
    cases h
    exact ⟨i, j, _, rfl, rfl, fun H Q q => ⟨i, j, rfl, rfl, q _ fun _ => .int _⟩⟩
  · cases h
theorem log2_lt {i : Int} {n : Nat} (h0 : 0 < n) (h : bits i n = true) : i.natAbs.log2 < n := PySem.Flt.log2_lt_of h0 (of_decide_eq_true h)
def rMulAll (K : PySem.W.Frag) : R2 := fun x y H Q => rI CMul (fun i j => .int (i * j)) x y H Q ∨ rI CMulW (fun i j => .int (i * j)) x y H Q ∨ rRep x y H Q ∨ rRepT K x y H Q
theorem op_mulAll : OpR k.X (binaryOp .Mult) (rMulAll k.X.K) := op_mul.or (op_mulW.or (op_rep.or op_repT))
theorem prim_mul : PrimR k (bin2 (rMulAll k.X.K)) (prim .mul) := by
  intro Φ H vs ds e Q R h o
  change pMul ds = some e at h
  unfold pMul at h
  split at h
  · rename_i i j
    split at h
    · rename_i hm
      obtain ⟨v, w, rfl, a, b⟩ := R.two
      cases h
      unfold mulOk at hm
      simp only [Bool.or_eq_true, Bool.and_eq_true] at hm
      rcases hm with (hm | hm) | hm
      · have := of_decide_eq_true hm
        exact .inl ⟨i, j, a.intI, b.intI, .inl ⟨by omega, by omega⟩, o.d (.int _)⟩
      · have := of_decide_eq_true hm
        exact .inl ⟨i, j, a.intI, b.intI, .inr ⟨by omega, by omega⟩, o.d (.int _)⟩
      · have h1 := log2_lt (by decide) hm.1
        have h2 := log2_lt (by decide) hm.2
        exact .inr (.inl ⟨i, j, a.intI, b.intI, by unfold CMulW; omega, o.d (.int _)⟩)
    · cases h
  · rename_i xs j
    split at h
    · rename_i hm
      obtain ⟨v, w, rfl, a, b⟩ := R.two
      cases h
      rw [Bool.and_eq_true] at hm
      have hs := of_decide_eq_true hm.1
      obtain ⟨p, vs, rfl, e1, r1⟩ := a.lstI
      exact .inr (.inr (.inl ⟨p, j, vs, rfl, b.intI, e1, by omega, by omega, by rw [r1.length]; exact few_ok hm.2, o.l (r1.rep _)⟩))
    · cases h
  · rename_i xs j
    split at h
    · rename_i hm
      obtain ⟨v, w, rfl, a, b⟩ := R.two
      cases h
      rw [Bool.and_eq_true, Bool.and_eq_true] at hm
      have hs := of_decide_eq_true hm.1.1
      have hl := of_decide_eq_true hm.2
      obtain ⟨p, vs, rfl, e1, r1⟩ := a.tupI
      refine .inr (.inr (.inr ⟨p, j, vs, rfl, b.intI, SqT.of e1, fun z => ?_, hs.1, hs.2, by rw [r1.length]; exact hl, o.tup (r1.rep _)⟩))
      subst z
      cases r1
      exact absurd hm.1.2 (by decide)
    · cases h
  · cases h
def rDivAll : R2 := fun x y H Q => rI CDivW (fun i j => .int (i / j)) x y H Q
theorem prim_fdiv : PrimR k (bin2 (rI CDivW fun i j => .int (i / j))) (prim .fdiv) := prim_ints2 fun ds e h => by
  change pFdiv ds = some e at h
  unfold pFdiv at h
  split at h
  · rename_i i j
    split at h
    · rename_i hm
      cases h
      rw [Bool.and_eq_true] at hm
      have h1 := of_decide_eq_true hm.1
      have h2 := log2_lt (by decide) hm.2
      exact ⟨i, j, _, rfl, rfl, fun H Q q => ⟨i, j, rfl, rfl, ⟨h1, by omega⟩, q _ fun _ => .int _⟩⟩
    · cases h
  · cases h
theorem prim_mod : PrimR k (bin2 (rI (fun _ j => 0 < j) fun i j => .int (i % j))) (prim .mod) := prim_ints2 fun ds e h => by
  change pMod ds = some e at h
  unfold pMod at h
  split at h
  · rename_i i j
    split at h
    · rename_i hm
      cases h
      exact ⟨i, j, _, rfl, rfl, fun H Q q => ⟨i, j, rfl, rfl, of_decide_eq_true hm, q _ fun _ => .int _⟩⟩
    · cases h
  · cases h
theorem prim_pow : PrimR k (bin2 (rI CPow fun i j => .int (i ^ j.toNat))) (prim .pow) := prim_ints2 fun ds e h => by
  change pPow ds = some e at h
  unfold pPow at h
  split at h
  · rename_i i j
    split at h
    · rename_i hm
      cases h
      rw [Bool.and_eq_true] at hm
      have h1 := of_decide_eq_true hm.1
      have h2 := of_decide_eq_true hm.2
      exact ⟨i, j, _, rfl, rfl, fun H Q q => ⟨i, j, rfl, rfl, ⟨h1.1, h1.2, by omega⟩, q _ fun _ => .int _⟩⟩
    · cases h
  · cases h
theorem prim_neg : PrimR k (un1 (rU fun i => .int (-i))) (prim .neg) := by
  intro Φ H vs ds e Q R h o
  change pNeg ds = some e at h
  unfold pNeg at h
  split at h
  · rename_i i
    obtain ⟨v, rfl, a⟩ := R.one
    cases h
    exact ⟨i, a.intI, o.d (.int _)⟩
  · cases h
theorem prim_lt : PrimR k (bin2 (rI0 fun i j => .bl (decide (i < j)))) (prim .lt) := prim_ints2 fun ds e h => by
  change pLt ds = some e at h
  unfold pLt at h
  split at h
  · rename_i i j
    cases h
    exact ⟨i, j, _, rfl, rfl, fun H Q q => ⟨i, j, rfl, rfl, q _ fun _ => .bl _⟩⟩
  · cases h
theorem prim_le : PrimR k (bin2 (rI0 fun i j => .bl (decide (i ≤ j)))) (prim .le) := prim_ints2 fun ds e h => by
  change pLe ds = some e at h
  unfold pLe at h
  split at h
  · rename_i i j
    cases h
    exact ⟨i, j, _, rfl, rfl, fun H Q q => ⟨i, j, rfl, rfl, q _ fun _ => .bl _⟩⟩
  · cases h
theorem prim_gt : PrimR k (bin2 (rI0 fun i j => .bl (decide (j < i)))) (prim .gt) := prim_ints2 fun ds e h => by
  change pGt ds = some e at h
  unfold pGt at h
  split at h
  · rename_i i j
    cases h
    exact ⟨i, j, _, rfl, rfl, fun H Q q => ⟨i, j, rfl, rfl, q _ fun _ => .bl _⟩⟩
  · cases h
theorem prim_ge : PrimR k (bin2 (rI0 fun i j => .bl (decide (j ≤ i)))) (prim .ge) := prim_ints2 fun ds e h => by
  change pGe ds = some e at h
  unfold pGe at h
  split at h
  · rename_i i j
    cases h
    exact ⟨i, j, _, rfl, rfl, fun H Q q => ⟨i, j, rfl, rfl, q _ fun _ => .bl _⟩⟩
  · cases h
end
end EV
end
section
set_option linter.all false
set_option maxRecDepth 100000
/-! EvOps2: equality, membership, subscripts, built-in functions. -/
namespace EV
open PySem L2 PySem.Spec PyProof.Rows
section
variable {k : Kx}
/-! ### == and in -/
def rEqM (K : PySem.W.Frag) (neg : Bool) : R2 := fun x y H Q => ∃ d e, Dp K H x d ∧ Dp K H y e ∧ d.canLay0 = true ∧ e.canLay0 = true ∧ min d.depth e.depth ≤ 64 ∧ Q (.bl (if neg then !PyData.eqv d e else PyData.eqv d e)) H
theorem op_eqM {X : Cx} (hu : X.A.units + 66 < cLine) : OpR X (compareOp .Eq) (rEqM X.K false) := by
  intro pins s σ H x y v u Q I rx ry h
  obtain ⟨d, e, hd, he, sd, se, hm, q⟩ := h
  obtain ⟨as, r1⟩ := Dp.reads I d x v hd rx
  obtain ⟨bs, r2⟩ := Dp.reads I e y u he ry
  exact SeqAt.compareEq_reads r1 r2 sd se (by omega) ⟨.bl _, H, I, rfl, q⟩
theorem op_neM {X : Cx} (hu : X.A.units + 66 < cLine) : OpR X (compareOp .NotEq) (rEqM X.K true) := by
  intro pins s σ H x y v u Q I rx ry h
  obtain ⟨d, e, hd, he, sd, se, hm, q⟩ := h
  obtain ⟨as, r1⟩ := Dp.reads I d x v hd rx
  obtain ⟨bs, r2⟩ := Dp.reads I e y u he ry
  exact SeqAt.compareNe_reads r1 r2 sd se (by omega) ⟨.bl _, H, I, rfl, q⟩
theorem scal_of {K : PySem.W.Frag} {fa : Nat → Addr} {Φ : Frz} {H : Hp} {v w : V} {a b : D} (ra : RV K fa Φ H v a) (rb : RV K fa Φ H w b) (h : scalD a b = true) : scal v w = true ∧ decide (v = w) = scEq a b := by
  cases a <;> cases b <;> first
    | exact absurd (show false = true from h) Bool.false_ne_true
    | (first | have e1 := ra.intI | have e1 := ra.blI | have e1 := ra.strI | have e1 := ra.nonI
       first | have e2 := rb.intI | have e2 := rb.blI | have e2 := rb.strI | have e2 := rb.nonI
       subst e1; subst e2
       refine ⟨rfl, ?_⟩
       first
         | exact dec_int
         | exact dec_bl
         | exact dec_str
         | (simp [scEq]))
theorem prim_eq : PrimR k (bin2 fun x y H Q => rEq x y H Q ∨ rEqM k.X.K false x y H Q) (prim .eq) := by
  intro Φ H vs ds e Q R h o
  change pEq ds = some e at h
  unfold pEq at h
  split at h
  · rename_i a b
    obtain ⟨v, w, rfl, ra, rb⟩ := R.two
    unfold eqD at h
    split at h
    · rename_i hs
      cases h
      obtain ⟨h1, h2⟩ := scal_of ra rb hs
      exact .inl ⟨h1, by rw [h2]; exact o.d (.bl _)⟩
    · split at h
      · rename_i x y hx hy
        split at h
        · rename_i hc
          cases h
          rw [Bool.and_eq_true, Bool.and_eq_true] at hc
          exact .inr ⟨x, y, ra.dp hx, rb.dp hy, hc.1.1, hc.1.2, of_decide_eq_true hc.2, o.d (.bl _)⟩
        · cases h
      · cases h
  · cases h
theorem prim_ne : PrimR k (bin2 fun x y H Q => rNe x y H Q ∨ rEqM k.X.K true x y H Q) (prim .ne) := by
  intro Φ H vs ds e Q R h o
  change pNe ds = some e at h
  unfold pNe at h
  split at h
  · rename_i a b
    obtain ⟨v, w, rfl, ra, rb⟩ := R.two
    unfold eqD at h
    split at h
    · rename_i hs
      cases h
      obtain ⟨h1, h2⟩ := scal_of ra rb hs
      exact .inl ⟨h1, by rw [h2]; exact o.d (.bl _)⟩
    · split at h
      · rename_i x y hx hy
        split at h
        · rename_i hc
          cases h
          rw [Bool.and_eq_true, Bool.and_eq_true] at hc
          exact .inr ⟨x, y, ra.dp hx, rb.dp hy, hc.1.1, hc.1.2, of_decide_eq_true hc.2, o.d (.bl _)⟩
        · cases h
      · cases h
  · cases h
theorem op_eqAll {X : Cx} (hu : X.A.units + 66 < cLine) : OpR X (compareOp .Eq) (fun x y H Q => rEq x y H Q ∨ rEqM X.K false x y H Q) := op_eq.or (op_eqM hu)
theorem op_neAll {X : Cx} (hu : X.A.units + 66 < cLine) : OpR X (compareOp .NotEq) (fun x y H Q => rNe x y H Q ∨ rEqM X.K true x y H Q) := op_ne.or (op_neM hu)

def rInM (K : PySem.W.Frag) (neg : Bool) : R2 := fun x y H Q => ∃ d ds, Dp K H x d ∧ (Dp K H y (.list ds) ∨ Dp K H y (.tuple ds)) ∧ d.canLay0 = true ∧ PyData.canLayAll0 ds = true ∧ min (PyData.depthAll ds) d.depth ≤ 60 ∧ Q (.bl (if neg then !ds.any fun z => PyData.eqv z d else ds.any fun z => PyData.eqv z d)) H
theorem op_inM {X : Cx} (hu : X.A.units + 66 < cLine) : OpR X (compareOp .In) (rInM X.K false) := by
  intro pins s σ H x y v u Q I rx ry h
  obtain ⟨d, ds, hd, he, sd, se, hm, q⟩ := h
  obtain ⟨as, r1⟩ := Dp.reads I d x v hd rx
  rcases he with he | he
  · obtain ⟨bs, r2⟩ := Dp.reads I (.list ds) y u he ry
    exact SeqAt.in_list_reads r2 r1 se sd (by omega) ⟨.bl _, H, I, rfl, q⟩
  · obtain ⟨bs, r2⟩ := Dp.reads I (.tuple ds) y u he ry
    exact SeqAt.in_tuple_reads r2 r1 se sd (by omega) ⟨.bl _, H, I, rfl, q⟩
theorem op_notInM {X : Cx} (hu : X.A.units + 66 < cLine) : OpR X (compareOp .NotIn) (rInM X.K true) := by
  intro pins s σ H x y v u Q I rx ry h
  obtain ⟨d, ds, hd, he, sd, se, hm, q⟩ := h
  obtain ⟨as, r1⟩ := Dp.reads I d x v hd rx
  rcases he with he | he
  · obtain ⟨bs, r2⟩ := Dp.reads I (.list ds) y u he ry
    exact SeqAt.notIn_list_reads r2 r1 se sd (by omega) ⟨.bl _, H, I, rfl, q⟩
  · obtain ⟨bs, r2⟩ := Dp.reads I (.tuple ds) y u he ry
    exact SeqAt.notIn_tuple_reads r2 r1 se sd (by omega) ⟨.bl _, H, I, rfl, q⟩
/-- k in a dict -/
def rInDict (neg : Bool) : R2 := fun x y H Q => ∃ a o, y = .ref a ∧ DGet H a x o ∧ Q (.bl (if neg then !o.isSome else o.isSome)) H
theorem op_inDict {X : Cx} (hu : X.A.units + 66 < cLine) : OpR X (compareOp .In) (rInDict false) := by
  intro pins s σ H x y v u Q I rx ry h
  obtain ⟨a, o, rfl, g, q⟩ := h
  obtain rfl : u = Value.ref a := ry
  exact d_in (by omega) I g rx fun s3 I3 => ⟨.bl o.isSome, H, I3, rfl, q⟩
theorem op_notInDict {X : Cx} (hu : X.A.units + 66 < cLine) : OpR X (compareOp .NotIn) (rInDict true) := by
  intro pins s σ H x y v u Q I rx ry h
  obtain ⟨a, o, rfl, g, q⟩ := h
  obtain rfl : u = Value.ref a := ry
  exact d_notIn (by omega) I g rx fun s3 I3 => ⟨.bl (!o.isSome), H, I3, rfl, q⟩
theorem flat_of {K : PySem.W.Frag} {fa : Nat → Addr} {Φ : Frz} {H : Hp} {v : V} {a : D} (r : RD K fa Φ H v a) (h : flatD a = true) : flatV v = true := by cases r <;> first | rfl | cases h
theorem eqF_of {K : PySem.W.Frag} {fa : Nat → Addr} {Φ : Frz} {H : Hp} {v w : V} {a b : D} (r : RD K fa Φ H v a) (r' : RD K fa Φ H w b) (h : flatD a = true) (h' : flatD b = true) : eqV v w = eqF a b := by
  cases r <;> first | (cases h; done) | (cases r' <;> first | rfl | (cases h'; done))
theorem inV_of {K : PySem.W.Frag} {fa : Nat → Addr} {Φ : Frz} {H : Hp} {w : V} {x : D} (r' : RD K fa Φ H w x) (hx : flatD x = true) : ∀ {vs : List V} {xs : List D}, RDs K fa Φ H vs xs → xs.all flatD = true →
    vs.all flatV = true ∧ (vs.any fun y => eqV y w) = (xs.any fun y => eqF y x)
  | _, _, .nil, _ => ⟨rfl, rfl⟩
  | _, _, .cons a b, h => by
    rw [List.all_cons, Bool.and_eq_true] at h
    obtain ⟨h1, h2⟩ := inV_of r' hx b h.2
    rw [List.all_cons, List.any_cons, List.any_cons, h1, h2, flat_of a h.1, eqF_of a r' h.1 hx]
    exact ⟨rfl, rfl⟩
theorem RV.flat {K : PySem.W.Frag} {fa : Nat → Addr} {Φ : Frz} {H : Hp} {v : V} {a : D} (r : RV K fa Φ H v a) (h : flatD a = true) : RD K fa Φ H v a := by
  cases r with
  | of r => exact r
  | _ => cases h
theorem RDs.noDict {K : PySem.W.Frag} {fa : Nat → Addr} {Φ : Frz} {H : Hp} {v : V} {x : D} {k : Key} (r : RV K fa Φ H v x) (h : keyOf x = some k) : v = kV k := by
  cases x with
  | int i => cases h; exact r.intI
  | str i => cases h; exact r.strI
  | _ => cases h
theorem RDk.get {K : PySem.W.Frag} {fa : Nat → Addr} {Φ : Frz} {H : Hp} {ws : List (Key × V)} {kvs : List (Key × D)} (r : RDk K fa Φ H ws kvs) (k : Key) : (valV ws k).isSome = (kGet kvs k).isSome ∧ ∀ d, kGet kvs k = some d → ∃ v, valV ws k = some v ∧ RD K fa Φ H v d := by
  induction kvs generalizing ws with
  | nil => cases r; exact ⟨rfl, fun d h => nomatch h⟩
  | cons p kvs ih =>
    cases r with
    | @cons k' v vs d ds a b =>
      unfold kGet
      by_cases e : k' = k
      · rw [if_pos e, valV_pos (p := (k', v)) e]
        exact ⟨rfl, fun d' h => by cases h; exact ⟨v, rfl, a⟩⟩
      · rw [if_neg e, valV_neg (p := (k', v)) e]
        exact ih b
theorem RDt.get {K : PySem.W.Frag} {fa : Nat → Addr} {Φ : Frz} {H : Hp} {ws : List (List Key × V)} {kvs : List (List Key × D)} (r : RDt K fa Φ H ws kvs) (k : List Key) : (valV ws k).isSome = (kGet kvs k).isSome ∧ ∀ d, kGet kvs k = some d → ∃ v, valV ws k = some v ∧ RD K fa Φ H v d := by
  induction kvs generalizing ws with
  | nil => cases r; exact ⟨rfl, fun d h => nomatch h⟩
  | cons p kvs ih =>
    cases r with
    | @cons k' v vs d ds a b =>
      unfold kGet
      by_cases e : k' = k
      · rw [if_pos e, valV_pos (p := (k', v)) e]
        exact ⟨rfl, fun d' h => by cases h; exact ⟨v, rfl, a⟩⟩
      · rw [if_neg e, valV_neg (p := (k', v)) e]
        exact ih b
theorem RDs.keys {K : PySem.W.Frag} {fa : Nat → Addr} {Φ : Frz} {H : Hp} {vs : List V} {xs : List D} (r : RDs K fa Φ H vs xs) {ks : List Key} (h : keysOf xs = some ks) : vs = ks.map kV := by
  induction xs generalizing vs ks with
  | nil => cases r; cases h; rfl
  | cons x xs ih =>
    cases r with
    | cons a b =>
      unfold keysOf at h
      cases h1 : keyOf x with
      | none => rw [h1] at h; cases h
      | some k1 =>
        cases h2 : keysOf xs with
        | none => rw [h1, h2] at h; cases h
        | some k2 =>
          rw [h1, h2] at h
          cases h
          rw [List.map_cons, ← ih b h2, RDs.noDict (.of a) h1]
theorem isin_of (neg : Bool) {Φ : Frz} {H : Hp} {v w : V} {x : D} {xs : List D} {b : Bool} {Q : VK} (rx : RV k.X.K k.fa Φ H v x) (h : inD x xs = some b) {a : Addr} {vs : List V} (hw : w = .ref a) (ho : H a = some (.lst vs) ∨ H a = some (.tup vs)) (r : RDs k.X.K k.fa Φ H vs xs)
    (q : Q (.bl (if neg then !b else b)) H) : rIn k.X.K neg v w H Q ∨ rInM k.X.K neg v w H Q := by
  unfold inD at h
  split at h
  · rename_i hf
    rw [Bool.and_eq_true] at hf
    cases h
    have rx' := rx.flat hf.1
    obtain ⟨h1, h2⟩ := inV_of rx' hf.1 r hf.2
    refine .inl ⟨a, vs, hw, ho.imp SqL.of SqT.of, flat_of rx' hf.1, h1, ?_⟩
    have e : inV v vs = (xs.any fun y => eqF y x) := h2
    rw [e]
    exact q
  · split at h
    · rename_i p ps hp hps
      split at h
      · rename_i hc
        rw [Bool.and_eq_true, Bool.and_eq_true] at hc
        cases h
        refine .inr ⟨p, ps, rx.dp hp, ?_, hc.1.1, hc.1.2, of_decide_eq_true hc.2, q⟩
        rw [hw]
        exact ho.imp (fun e => .lst (SqL.of e) (r.dp hps)) fun e => .tup (SqT.of e) (r.dp hps)
      · cases h
    · cases h
def rInAll (K : PySem.W.Frag) (neg : Bool) : R2 := fun x y H Q => (rIn K neg x y H Q ∨ rInM K neg x y H Q) ∨ rInDict neg x y H Q
theorem op_inAll {X : Cx} (hu : X.A.units + 66 < cLine) : OpR X (compareOp .In) (rInAll X.K false) := (op_in_seq.or (op_inM hu)).or (op_inDict hu)
theorem op_notInAll {X : Cx} (hu : X.A.units + 66 < cLine) : OpR X (compareOp .NotIn) (rInAll X.K true) := (op_notIn_seq.or (op_notInM hu)).or (op_notInDict hu)
theorem prim_isin : PrimR k (bin2 (rInAll k.X.K false)) (prim .isin) := by
  intro Φ H vs ds e Q R h o
  change pIsin ds = some e at h
  unfold pIsin blD at h
  split at h
  · rename_i x xs
    obtain ⟨v, w, rfl, ra, rb⟩ := R.two
    cases hb : inD x xs with
    | none => rw [hb] at h; cases h
    | some b =>
      rw [hb] at h
      cases h
      obtain ⟨a, us, hw, ho, r⟩ := rb.lstI
      exact .inl (isin_of false ra hb hw (.inl ho) r (o.d (.bl _)))
  · rename_i x xs
    obtain ⟨v, w, rfl, ra, rb⟩ := R.two
    cases hb : inD x xs with
    | none => rw [hb] at h; cases h
    | some b =>
      rw [hb] at h
      cases h
      obtain ⟨a, us, hw, ho, r⟩ := rb.tupI
      exact .inl (isin_of false ra hb hw (.inr ho) r (o.d (.bl _)))
  · rename_i x kvs
    obtain ⟨v, w, rfl, ra, rb⟩ := R.two
    cases hk : keyOf x with
    | none => rw [hk] at h; cases h
    | some key =>
      rw [hk] at h
      cases h
      obtain ⟨a, us, hw, ho, r⟩ := rb.dkI
      refine .inr ⟨a, valV us key, hw, ?_, ?_⟩
      · rw [RDs.noDict ra hk]; exact DGet.k ho
      · show Q (.bl (valV us key).isSome) H
        rw [(r.get key).1]
        exact o.d (.bl _)
  · rename_i xs kvs
    obtain ⟨v, w, rfl, ra, rb⟩ := R.two
    cases hk : keysOf xs with
    | none => rw [hk] at h; cases h
    | some keys =>
      rw [hk] at h
      cases h
      obtain ⟨a, us, hw, ho, r⟩ := rb.dtI
      obtain ⟨b, ws, rfl, hb, rw'⟩ := ra.tupI
      refine .inr ⟨a, valV us keys, hw, ?_, ?_⟩
      · exact DGet.t ho (by rw [hb, rw'.keys hk])
      · show Q (.bl (valV us keys).isSome) H
        rw [(r.get keys).1]
        exact o.d (.bl _)
  · cases h
theorem prim_notin : PrimR k (bin2 (rInAll k.X.K true)) (prim .notin) := by
  intro Φ H vs ds e Q R h o
  change pNotin ds = some e at h
  unfold pNotin blD at h
  split at h
  · rename_i x xs
    obtain ⟨v, w, rfl, ra, rb⟩ := R.two
    cases hb : inD x xs with
    | none => rw [hb] at h; cases h
    | some b =>
      rw [hb] at h
      cases h
      obtain ⟨a, us, hw, ho, r⟩ := rb.lstI
      exact .inl (isin_of true ra hb hw (.inl ho) r (o.d (.bl _)))
  · rename_i x xs
    obtain ⟨v, w, rfl, ra, rb⟩ := R.two
    cases hb : inD x xs with
    | none => rw [hb] at h; cases h
    | some b =>
      rw [hb] at h
      cases h
      obtain ⟨a, us, hw, ho, r⟩ := rb.tupI
      exact .inl (isin_of true ra hb hw (.inr ho) r (o.d (.bl _)))
  · rename_i x kvs
    obtain ⟨v, w, rfl, ra, rb⟩ := R.two
    cases hk : keyOf x with
    | none => rw [hk] at h; cases h
    | some key =>
      rw [hk] at h
      cases h
      obtain ⟨a, us, hw, ho, r⟩ := rb.dkI
      refine .inr ⟨a, valV us key, hw, ?_, ?_⟩
      · rw [RDs.noDict ra hk]; exact DGet.k ho
      · show Q (.bl (!(valV us key).isSome)) H
        rw [(r.get key).1]
        exact o.d (.bl _)
  · rename_i xs kvs
    obtain ⟨v, w, rfl, ra, rb⟩ := R.two
    cases hk : keysOf xs with
    | none => rw [hk] at h; cases h
    | some keys =>
      rw [hk] at h
      cases h
      obtain ⟨a, us, hw, ho, r⟩ := rb.dtI
      obtain ⟨b, ws, rfl, hb, rw'⟩ := ra.tupI
      refine .inr ⟨a, valV us keys, hw, ?_, ?_⟩
      · exact DGet.t ho (by rw [hb, rw'.keys hk])
      · show Q (.bl (!(valV us keys).isSome)) H
        rw [(r.get keys).1]
        exact o.d (.bl _)
  · cases h
end
end EV
end
section
set_option linter.all false
set_option maxRecDepth 100000
/-! EvOps3: subscripts, slices, built-in functions. -/
namespace EV
open PySem PySem.W L2 PySem.Spec PyProof.Rows
section
variable {k : Kx}
/-! ### readings are monotone -/
def Mono (t : TE) : Prop := ∀ σ H (Q Q' : VK), (∀ v H', Q v H' → Q' v H') → t σ H Q → t σ H Q'
theorem PostX.mono {Φ : Frz} {H : Hp} {σ : L2.St} {fp : Fp} {Q Q' : VK} (h : ∀ v H', Q v H' → Q' v H') : ∀ {r : R (E × Env)}, PostX k Φ H σ fp Q r → PostX k Φ H σ fp Q' r
  | .ok (e, ρ), q => fun v Φ' H' fp' G' a b c d => h _ _ (q v Φ' H' fp' G' a b c d)
  | .exc n, q => q
  | .bad, q => q
theorem TX.mono {x : X} : Mono (TX k x) := fun σ H Q Q' h ⟨ρ, Φ, fp, S, T, q⟩ => ⟨ρ, Φ, fp, S, T, q.mono h⟩
theorem tVar.mono {i : Nat} : Mono (tVar i) := fun σ H Q Q' h ⟨v, e, q⟩ => ⟨v, e, h _ _ q⟩
theorem pas1m {a : Expr} {as : As} (h : PAs k [a] as) : ∃ ta, PE k.X a ta ∧ Mono ta ∧ tAs k as = tCons ta tNil := by
  cases h with
  | s h1 _ h => cases h; exact ⟨_, h1, tVar.mono, rfl⟩
  | x h1 _ h => cases h; exact ⟨_, h1, TX.mono, rfl⟩
theorem pas2m {a b : Expr} {as : As} (h : PAs k [a, b] as) : ∃ ta tb, PE k.X a ta ∧ PE k.X b tb ∧ Mono ta ∧ Mono tb ∧ tAs k as = tCons ta (tCons tb tNil) := by
  cases h with
  | s h1 _ h => obtain ⟨tb, h2, m, e⟩ := pas1m h; exact ⟨_, tb, h1, h2, tVar.mono, m, by unfold tAs; rw [e]⟩
  | x h1 _ h => obtain ⟨tb, h2, m, e⟩ := pas1m h; exact ⟨_, tb, h1, h2, TX.mono, m, by unfold tAs; rw [e]⟩
theorem pas3m {a b c : Expr} {as : As} (h : PAs k [a, b, c] as) : ∃ ta tb tc, PE k.X a ta ∧ PE k.X b tb ∧ PE k.X c tc ∧ Mono ta ∧ Mono tb ∧ Mono tc ∧ tAs k as = tCons ta (tCons tb (tCons tc tNil)) := by
  cases h with
  | s h1 _ h => obtain ⟨tb, tc, h2, h3, m, m', e⟩ := pas2m h; exact ⟨_, tb, tc, h1, h2, h3, tVar.mono, m, m', by unfold tAs; rw [e]⟩
  | x h1 _ h => obtain ⟨tb, tc, h2, h3, m, m', e⟩ := pas2m h; exact ⟨_, tb, tc, h1, h2, h3, TX.mono, m, m', by unfold tAs; rw [e]⟩

/-! ### is -/
theorem RV.isN {K : PySem.W.Frag} {fa : Nat → Addr} {Φ : Frz} {H : Hp} {v : V} {x : D} (r : RV K fa Φ H v x) : decide (v = .non) = isND x := by
  cases r with
  | of r => cases r <;> simp [isND]
  | lst _ _ => simp [isND]
  | dk _ _ => simp [isND]
  | dt _ _ => simp [isND]
theorem ar_isN {a : Expr} {as : As} {j} {p pos : Pos} (h : PAs k [a] as) : AR k (.Compare a [.Is] [.Constant .none j p] pos) as (un1 fun x H Q => Q (.bl (decide (x = .non))) H) := by
  obtain ⟨ta, h1, m, e⟩ := pas1m h
  show PE k.X _ fun σ H Q => tAs k as σ H fun vs H1 => un1 _ vs H1 Q
  rw [e]
  exact pe_of (pe_cmpR op_isN h1 pe_non rfl) fun σ H Q q => m σ H _ _ (fun v H' z => ⟨rfl, z⟩) q
theorem ar_notN {a : Expr} {as : As} {j} {p pos : Pos} (h : PAs k [a] as) : AR k (.Compare a [.IsNot] [.Constant .none j p] pos) as (un1 fun x H Q => Q (.bl (!decide (x = .non))) H) := by
  obtain ⟨ta, h1, m, e⟩ := pas1m h
  show PE k.X _ fun σ H Q => tAs k as σ H fun vs H1 => un1 _ vs H1 Q
  rw [e]
  exact pe_of (pe_cmpR op_notN h1 pe_non rfl) fun σ H Q q => m σ H _ _ (fun v H' z => ⟨rfl, z⟩) q
theorem prim_isnone : PrimR k (un1 fun x H Q => Q (.bl (decide (x = .non))) H) (prim .isnone) := by
  intro Φ H vs ds e Q R h o
  change pIsnone ds = some e at h
  unfold pIsnone at h
  split at h
  · obtain ⟨v, rfl, r⟩ := R.one
    show Q (.bl (decide (v = .non))) H
    rw [r.isN]
    cases h
    exact o.d (.bl _)
  · cases h
theorem prim_notnone : PrimR k (un1 fun x H Q => Q (.bl (!decide (x = .non))) H) (prim .notnone) := by
  intro Φ H vs ds e Q R h o
  change pNotnone ds = some e at h
  unfold pNotnone at h
  split at h
  · obtain ⟨v, rfl, r⟩ := R.one
    show Q (.bl (!decide (v = .non))) H
    rw [r.isN]
    cases h
    exact o.d (.bl _)
  · cases h
theorem beq_dec (a b : Bool) : decide (a = b) = (a == b) := by cases a <;> cases b <;> rfl
theorem prim_isb : PrimR k (bin2 rIsB) (prim .isb) := by
  intro Φ H vs ds e Q R h o
  change pIsb ds = some e at h
  unfold pIsb at h
  split at h
  · obtain ⟨v, w, rfl, r, r'⟩ := R.two
    cases h
    exact ⟨_, _, r.blI, r'.blI, by rw [beq_dec]; exact o.d (.bl _)⟩
  · cases h
theorem prim_isnotb : PrimR k (bin2 rNotB) (prim .isnotb) := by
  intro Φ H vs ds e Q R h o
  change pIsnotb ds = some e at h
  unfold pIsnotb at h
  split at h
  · obtain ⟨v, w, rfl, r, r'⟩ := R.two
    cases h
    exact ⟨_, _, r.blI, r'.blI, by rw [beq_dec]; exact o.d (.bl _)⟩
  · cases h

/-! ### subscripts -/
def rIxDict : R2 := fun x y H Q => ∃ a v, x = .ref a ∧ DGet H a y (some v) ∧ Q v H
theorem ix_dict {X : Cx} (hu : X.A.units + 1 < cLine) : IxR X rIxDict := by
  intro value slice pins s σ H x y v u Q I rx ry h hs
  obtain ⟨a, w, rfl, g, q⟩ := h
  obtain rfl : v = Value.ref a := rx
  exact tail_any (dict_typeIs I g) PySem.F.slot_dict_getitem.lookup (d_getItem hu I g ry fun w' s' I' r' => ⟨w, H, I', r', q⟩) hs
def rIxAll (K : PySem.W.Frag) : R2 := fun x y H Q => rIxL K x y H Q ∨ rIxT K x y H Q ∨ rIxDict x y H Q
theorem ix_all {X : Cx} (hu : X.A.units + 66 < cLine) : IxR X (rIxAll X.K) := ix_list.or (ix_tup.or (ix_dict (by omega)))
theorem prim_ix : PrimR k (bin2 (rIxAll k.X.K)) (prim .ix) := by
  intro Φ H vs ds e Q R h o
  change pIx ds = some e at h
  unfold pIx at h
  split at h
  · rename_i xs i
    obtain ⟨v, w, rfl, ra, rb⟩ := R.two
    cases hb : ixD xs i with
    | none => rw [hb] at h; cases h
    | some b =>
      rw [hb] at h
      cases h
      obtain ⟨a, us, hw, ho, r⟩ := ra.lstI
      obtain ⟨z, hz, rz⟩ := r.ix hb
      exact .inl ⟨a, us, i, z, hw, rb.intI, SqL.of ho, hz, o.d rz⟩
  · rename_i xs i
    obtain ⟨v, w, rfl, ra, rb⟩ := R.two
    cases hb : ixD xs i with
    | none => rw [hb] at h; cases h
    | some b =>
      rw [hb] at h
      cases h
      obtain ⟨a, us, hw, ho, r⟩ := ra.tupI
      obtain ⟨z, hz, rz⟩ := r.ix hb
      exact .inr (.inl ⟨a, us, i, z, hw, rb.intI, SqT.of ho, hz, o.d rz⟩)
  · rename_i kvs x
    obtain ⟨v, w, rfl, ra, rb⟩ := R.two
    cases hk : keyOf x with
    | none => rw [hk] at h; cases h
    | some key =>
      rw [hk, Option.bind_some] at h
      cases hg : kGet kvs key with
      | none => rw [hg] at h; cases h
      | some d =>
        rw [hg] at h
        cases h
        obtain ⟨a, us, hw, ho, r⟩ := ra.dkI
        obtain ⟨z, hz, rz⟩ := (r.get key).2 d hg
        refine .inr (.inr ⟨a, z, hw, ?_, o.d rz⟩)
        rw [RDs.noDict rb hk, ← hz]
        exact DGet.k ho
  · rename_i kvs xs
    obtain ⟨v, w, rfl, ra, rb⟩ := R.two
    cases hk : keysOf xs with
    | none => rw [hk] at h; cases h
    | some keys =>
      rw [hk, Option.bind_some] at h
      cases hg : kGet kvs keys with
      | none => rw [hg] at h; cases h
      | some d =>
        rw [hg] at h
        cases h
        obtain ⟨a, us, hw, ho, r⟩ := ra.dtI
        obtain ⟨z, hz, rz⟩ := (r.get keys).2 d hg
        obtain ⟨b, ws, rfl, hb, rw'⟩ := rb.tupI
        refine .inr (.inr ⟨a, z, hw, ?_, o.d rz⟩)
        rw [← hz]
        exact DGet.t ho (by rw [hb, rw'.keys hk])
  · cases h

/-! ### slices -/
theorem pe_slice2 {X : Cx} {e lo hi : Expr} {te tl th : TE} {p2 pos : Pos} {r : V → Option Int → Option Int → Hp → VK → Prop} (hr : SlR X r) (he : PE X e te) (hl : PE X lo tl) (hu : PE X hi th) : PE X (.Subscript e (.Slice (some lo) (some hi) none p2) pos) (fun σ H Q => te σ H fun x H1 => tl σ H1 fun l H2 => th σ H2 fun u H3 => ∃ i j, l = .int i ∧ u = .int j ∧ r x (some i) (some j) H3 Q) := by
  refine ⟨fun pins s σ H Q I h => ?_⟩
  refine Subscript_ (thn (he.run pins s σ H _ I h) fun v s1 ⟨x, H1, I1, r1, q1⟩ => ?_)
  refine wpAny_Slice ?_
  rw [evalPart_some]
  refine thn (hl.run pins s1 σ H1 _ I1 q1) fun vl s2 ⟨l, H2, I2, pl, q2⟩ => ?_
  rw [evalPart_some]
  refine thn (hu.run pins s2 σ H2 _ I2 q2) fun vu s3 ⟨u, H3, I3, pu, q3⟩ => ?_
  obtain ⟨i, j, rfl, rfl, q3⟩ := q3
  obtain ⟨t1, rfl⟩ := pl
  obtain ⟨t2, rfl⟩ := pu
  rw [evalPart_none]
  refine wpAny_pure ?_
  have I4 : Inv X pins σ H3 { s3 with heap := s3.heap.push { cls := .type "slice", data := .fields #[.int i t1, .int j t2, .none] } } := I3.kept (t' := s3.toks) fun b ob q => Heap.get?_push_of_some _ q
  obtain ⟨T, id, hT, ht, hg⟩ := hr pins { s3 with heap := s3.heap.push { cls := .type "slice", data := .fields #[.int i t1, .int j t2, .none] } } σ H3 x v (.int i t1) (.int j t2) (some i) (some j) s3.heap.objs.size Q I4 r1 (Heap.IsSliceOf.new ..) (.int i t1) (.int j t2) q3
  show wpAny (model X.prog X.w) X.A (subscriptTail e (.Slice (some lo) (some hi) none p2) v (.ref s3.heap.objs.size)) (EP X pins σ Q) X.xe { s3 with heap := s3.heap.push { cls := .type "slice", data := .fields #[.int i t1, .int j t2, .none] } }
  exact tail_any (ops := [.ref s3.heap.objs.size, v]) ht hT hg (by with_unfolding_all rfl)
def rSlAll (K : PySem.W.Frag) : V → Option Int → Option Int → Hp → VK → Prop := fun x lo hi H Q => rSlL K x lo hi H Q ∨ rSlA K x lo hi H Q
theorem sl_all {X : Cx} : SlR X (rSlAll X.K) := sl_list.or sl_tupA
def rS00 (K : PySem.W.Frag) : List V → Hp → VK → Prop := fun vs H Q => match vs with
  | [x] => rSlAll K x none none H Q
  | _ => False
def rS10 (K : PySem.W.Frag) : List V → Hp → VK → Prop := fun vs H Q => match vs with
  | [x, y] => ∃ i, y = .int i ∧ rSlAll K x (some i) none H Q
  | _ => False
def rS01 (K : PySem.W.Frag) : List V → Hp → VK → Prop := fun vs H Q => match vs with
  | [x, y] => ∃ i, y = .int i ∧ rSlAll K x none (some i) H Q
  | _ => False
def rS11 (K : PySem.W.Frag) : List V → Hp → VK → Prop := fun vs H Q => match vs with
  | [x, y, z] => ∃ i j, y = .int i ∧ z = .int j ∧ rSlAll K x (some i) (some j) H Q
  | _ => False
theorem ar_s00 {a : Expr} {as : As} {p2 pos : Pos} (h : PAs k [a] as) : AR k (.Subscript a (.Slice none none none p2) pos) as (rS00 k.X.K) := by
  obtain ⟨ta, h1, m, e⟩ := pas1m h
  show PE k.X _ fun σ H Q => tAs k as σ H fun vs H1 => rS00 _ vs H1 Q
  rw [e]
  exact pe_slice sl_all h1 po_none po_none
theorem ar_s10 {a b : Expr} {as : As} {p2 pos : Pos} (h : PAs k [a, b] as) : AR k (.Subscript a (.Slice (some b) none none p2) pos) as (rS10 k.X.K) := by
  obtain ⟨ta, tb, h1, h2, m, m', e⟩ := pas2m h
  show PE k.X _ fun σ H Q => tAs k as σ H fun vs H1 => rS10 _ vs H1 Q
  rw [e]
  exact pe_slice sl_all h1 (po_some h2) po_none
theorem ar_s01 {a b : Expr} {as : As} {p2 pos : Pos} (h : PAs k [a, b] as) : AR k (.Subscript a (.Slice none (some b) none p2) pos) as (rS01 k.X.K) := by
  obtain ⟨ta, tb, h1, h2, m, m', e⟩ := pas2m h
  show PE k.X _ fun σ H Q => tAs k as σ H fun vs H1 => rS01 _ vs H1 Q
  rw [e]
  exact pe_slice sl_all h1 po_none (po_some h2)
theorem ar_s11 {a b c : Expr} {as : As} {p2 pos : Pos} (h : PAs k [a, b, c] as) : AR k (.Subscript a (.Slice (some b) (some c) none p2) pos) as (rS11 k.X.K) := by
  obtain ⟨ta, tb, tc, h1, h2, h3, m, m', m'', e⟩ := pas3m h
  show PE k.X _ fun σ H Q => tAs k as σ H fun vs H1 => rS11 _ vs H1 Q
  rw [e]
  exact pe_slice2 sl_all h1 h2 h3
theorem cut_whole {xs : List D} {lo hi : Option Int} (h : HT.sIx xs.length 0 lo = 0 ∧ HT.sIx xs.length xs.length hi = xs.length) : cut xs lo hi = xs := by
  unfold cut
  rw [h.1, h.2]
  simp
theorem sl_lst {Φ : Frz} {H : Hp} {v : V} {xs : List D} {lo hi : Option Int} {Q : VK} (r : RV k.X.K k.fa Φ H v (.lst xs)) (o : Out k Φ H (.l (cut xs lo hi)) Q) : rSlAll k.X.K v lo hi H Q := by
  obtain ⟨a, us, hw, ho, r⟩ := r.lstI
  exact .inl ⟨a, us, hw, SqL.of ho, o.l (r.cut lo hi)⟩
theorem sl_tup' {Φ : Frz} {H : Hp} {v : V} {xs : List D} {lo hi : Option Int} {Q : VK} (r : RV k.X.K k.fa Φ H v (.tup xs)) (o : Out k Φ H (.d (.tup (cut xs lo hi))) Q) : rSlAll k.X.K v lo hi H Q := by
  obtain ⟨a, us, hw, ho, r⟩ := r.tupI
  refine .inr ⟨a, us, hw, SqT.of ho, fun z => ?_, fun z => o.tup (r.cut lo hi)⟩
  rw [r.length] at z
  rw [cut_whole z] at o
  exact o.d (.tup ho r)
theorem prim_s00 : PrimR k (rS00 k.X.K) (prim (.slc false false)) := by
  intro Φ H vs ds e Q R h o
  change pSlc false false ds = some e at h
  unfold pSlc at h
  split at h <;> first | (cases h; done) | skip
  all_goals first | contradiction | skip
  all_goals (obtain ⟨v, rfl, r⟩ := R.one; cases h)
  · exact sl_lst r o
  · exact sl_tup' r o
theorem prim_s10 : PrimR k (rS10 k.X.K) (prim (.slc true false)) := by
  intro Φ H vs ds e Q R h o
  change pSlc true false ds = some e at h
  unfold pSlc at h
  split at h <;> first | (cases h; done) | skip
  all_goals first | contradiction | skip
  all_goals (obtain ⟨v, w, rfl, r, r'⟩ := R.two; cases h)
  · exact ⟨_, r'.intI, sl_lst r o⟩
  · exact ⟨_, r'.intI, sl_tup' r o⟩
theorem prim_s01 : PrimR k (rS01 k.X.K) (prim (.slc false true)) := by
  intro Φ H vs ds e Q R h o
  change pSlc false true ds = some e at h
  unfold pSlc at h
  split at h <;> first | (cases h; done) | skip
  all_goals first | contradiction | skip
  all_goals (obtain ⟨v, w, rfl, r, r'⟩ := R.two; cases h)
  · exact ⟨_, r'.intI, sl_lst r o⟩
  · exact ⟨_, r'.intI, sl_tup' r o⟩
theorem prim_s11 : PrimR k (rS11 k.X.K) (prim (.slc true true)) := by
  intro Φ H vs ds e Q R h o
  change pSlc true true ds = some e at h
  unfold pSlc at h
  split at h <;> first | (cases h; done) | skip
  all_goals first | contradiction | skip
  all_goals (obtain ⟨v, w, u, rfl, r, r', r''⟩ := R.three; cases h)
  · exact ⟨_, _, r'.intI, r''.intI, sl_lst r o⟩
  · exact ⟨_, _, r'.intI, r''.intI, sl_tup' r o⟩
/-! ### built-in functions -/
theorem ar_b {id : String} {x : Str} {e : Expr} {es : List Expr} {as : As} {r : List V → Hp → VK → Prop} {p pos : Pos} (hc : CallR k.X (.builtin id) r) (hg : Gl k.X x) (hm : k.X.mg x = none) (hv : bootBuiltins x = some (.builtin id)) (h : PAs k (e :: es) as) (hn : x ≠ "__name__" := by decide) (hdb : (x == ("__debug__" : Str)) = false := by decide)
    (he : starEach (e :: es) k.X.env = (false, eval e k.X.env) :: starEach es k.X.env := by rfl) (hpl : (backTo pos (starEach es k.X.env)).any (·.1) = false := by rfl) : AR k (.Call (.Name x p) (e :: es) [] pos) as r := pe_callB hc hg hm hv h.pa hn hdb he hpl
theorem ar_ty {T : String} {x : Str} {e : Expr} {es : List Expr} {as : As} {r : List V → Hp → VK → Prop} {p pos : Pos} (hc : CallR k.X (.type T) r) (hg : Gl k.X x) (hm : k.X.mg x = none) (hv : bootBuiltins x = some (.type T)) (h : PAs k (e :: es) as) (hn : x ≠ "__name__" := by decide) (hdb : (x == ("__debug__" : Str)) = false := by decide)
    (he : starEach (e :: es) k.X.env = (false, eval e k.X.env) :: starEach es k.X.env := by rfl) (hpl : (backTo pos (starEach es k.X.env)).any (·.1) = false := by rfl) : AR k (.Call (.Name x p) (e :: es) [] pos) as r := pe_callTy hc hg hm hv h.pa hn hdb he hpl
def rLen (K : PySem.W.Frag) : List V → Hp → VK → Prop := fun xs H Q => ∃ p ys, xs = [.ref p] ∧ (SqL K H p ys ∨ SqT K H p ys) ∧ Q (.int ys.length) H
theorem prim_len : PrimR k (rLen k.X.K) (prim .len) := by
  intro Φ H vs ds e Q R h o
  change pLen ds = some e at h
  unfold pLen at h
  split at h
  · obtain ⟨v, rfl, r⟩ := R.one
    cases h
    obtain ⟨a, us, rfl, ho, r⟩ := r.lstI
    exact ⟨a, us, rfl, .inl (SqL.of ho), by rw [r.length]; exact o.d (.int _)⟩
  · obtain ⟨v, rfl, r⟩ := R.one
    cases h
    obtain ⟨a, us, rfl, ho, r⟩ := r.tupI
    exact ⟨a, us, rfl, .inr (SqT.of ho), by rw [r.length]; exact o.d (.int _)⟩
  · cases h
def rAbs : List V → Hp → VK → Prop := fun xs H Q => ∃ i, xs = [.int i] ∧ Q (.int (if i < 0 then -i else i)) H
theorem prim_abs : PrimR k rAbs (prim .abs) := by
  intro Φ H vs ds e Q R h o
  change pAbs ds = some e at h
  unfold pAbs at h
  split at h
  · obtain ⟨v, rfl, r⟩ := R.one
    cases h
    cases r.intI
    exact ⟨_, rfl, o.d (.int _)⟩
  · cases h
def rInt1 : List V → Hp → VK → Prop := fun xs H Q => (∃ i, xs = [.int i] ∧ Q (.int i) H) ∨ ∃ k, xs = [.bl k] ∧ Q (.int (if k then 1 else 0)) H
theorem prim_int : PrimR k rInt1 (prim .int) := by
  intro Φ H vs ds e Q R h o
  change pInt ds = some e at h
  unfold pInt at h
  split at h
  · obtain ⟨v, rfl, r⟩ := R.one
    cases h
    cases r.intI
    exact .inl ⟨_, rfl, o.d (.int _)⟩
  · obtain ⟨v, rfl, r⟩ := R.one
    cases h
    cases r.blI
    exact .inr ⟨_, rfl, o.d (.int _)⟩
  · cases h
def rList (K : PySem.W.Frag) : List V → Hp → VK → Prop := fun xs H Q => ∃ p ys, xs = [.ref p] ∧ (SqL K H p ys ∨ SqT K H p ys) ∧ ∀ l, H l = none → Q (.ref l) (upd H l (.lst ys))
theorem prim_list : PrimR k (rList k.X.K) (prim .list) := by
  intro Φ H vs ds e Q R h o
  change pList ds = some e at h
  unfold pList at h
  split at h
  · obtain ⟨v, rfl, r⟩ := R.one
    cases h
    obtain ⟨a, us, rfl, ho, r⟩ := r.lstI
    exact ⟨a, us, rfl, .inl (SqL.of ho), o.l r⟩
  · obtain ⟨v, rfl, r⟩ := R.one
    cases h
    obtain ⟨a, us, rfl, ho, r⟩ := r.tupI
    exact ⟨a, us, rfl, .inr (SqT.of ho), o.l r⟩
  · rename_i ns
    obtain ⟨v, rfl, r⟩ := R.one
    cases h
    have q := o.l (RDs.ofInts ns)
    cases r with
    | of r => cases r with
      | scrF e => exact ⟨_, _, rfl, .inl (.inl (.inr ⟨_, e⟩)), q⟩
      | scrK a b c d e f => exact ⟨_, _, rfl, .inl (.inr ⟨_, _, _, a, b, c, d, e, f⟩), q⟩
      | scrL f e => exact ⟨_, _, rfl, .inl (SqL.of e), q⟩
  · cases h
def rTuple (K : PySem.W.Frag) : List V → Hp → VK → Prop := fun xs H Q => ∃ p ys, xs = [.ref p] ∧ ((SqL K H p ys ∧ ∀ l, H l = none → Q (.ref l) (upd H l (.tup ys))) ∨ (SqT K H p ys ∧ Q (.ref p) H))
theorem prim_tuple : PrimR k (rTuple k.X.K) (prim .tuple) := by
  intro Φ H vs ds e Q R h o
  change pTuple ds = some e at h
  unfold pTuple at h
  split at h
  · obtain ⟨v, rfl, r⟩ := R.one
    cases h
    obtain ⟨a, us, rfl, ho, r⟩ := r.lstI
    exact ⟨a, us, rfl, .inl ⟨SqL.of ho, o.tup r⟩⟩
  · obtain ⟨v, rfl, r⟩ := R.one
    cases h
    obtain ⟨a, us, rfl, ho, r⟩ := r.tupI
    exact ⟨a, us, rfl, .inr ⟨SqT.of ho, o.d (.tup ho r)⟩⟩
  · cases h
theorem prim_sum : PrimR k (rSum k.X.K) (prim .sum) := by
  intro Φ H vs ds e Q R h o
  change pSum ds = some e at h
  unfold pSum at h
  split at h
  · rename_i xs
    obtain ⟨v, rfl, r⟩ := R.one
    cases hs : asI xs with
    | none => rw [hs] at h; cases h
    | some ns =>
      rw [hs] at h
      cases h
      obtain ⟨a, us, rfl, ho, r⟩ := r.lstI
      rw [r.ints hs] at ho
      exact ⟨a, ns, rfl, SqL.of ho, o.d (.int _)⟩
  · cases h
def rMax2 : List V → Hp → VK → Prop := fun xs H Q => ∃ i j, xs = [.int i, .int j] ∧ Q (.int (if j > i then j else i)) H
def rMin2 : List V → Hp → VK → Prop := fun xs H Q => ∃ i j, xs = [.int i, .int j] ∧ Q (.int (if j < i then j else i)) H
theorem prim_max2 : PrimR k rMax2 (prim .max2) := by
  intro Φ H vs ds e Q R h o
  change pMax2 ds = some e at h
  unfold pMax2 at h
  split at h
  · obtain ⟨v, w, rfl, r, r'⟩ := R.two
    cases h
    cases r.intI
    cases r'.intI
    exact ⟨_, _, rfl, o.d (.int _)⟩
  · cases h
theorem prim_min2 : PrimR k rMin2 (prim .min2) := by
  intro Φ H vs ds e Q R h o
  change pMin2 ds = some e at h
  unfold pMin2 at h
  split at h
  · obtain ⟨v, w, rfl, r, r'⟩ := R.two
    cases h
    cases r.intI
    cases r'.intI
    exact ⟨_, _, rfl, o.d (.int _)⟩
  · cases h
theorem maxI_spec : ∀ {ns : List Int} {m : Int}, maxI ns = some m → m ∈ ns ∧ ∀ y ∈ ns, y ≤ m
  | [], _, h => by cases h
  | [a], m, h => by cases h; simp
  | a :: b :: r, m, h => by
    simp only [maxI] at h
    cases e : maxI (b :: r) with
    | none => rw [e] at h; cases h
    | some n =>
      obtain ⟨h1, h2⟩ := maxI_spec e
      rw [e] at h
      cases h
      show (if a < n then n else a) ∈ _ ∧ ∀ y ∈ _, y ≤ (if a < n then n else a)
      by_cases hl : a < n
      · rw [if_pos hl]
        exact ⟨List.mem_cons_of_mem _ h1, fun y hy => (List.mem_cons.mp hy).elim (fun z => by omega) (h2 y)⟩
      · rw [if_neg hl]
        exact ⟨List.mem_cons_self, fun y hy => (List.mem_cons.mp hy).elim (fun z => by omega) fun z => by have := h2 y z; omega⟩
theorem minI_spec : ∀ {ns : List Int} {m : Int}, minI ns = some m → m ∈ ns ∧ ∀ y ∈ ns, m ≤ y
  | [], _, h => by cases h
  | [a], m, h => by cases h; simp
  | a :: b :: r, m, h => by
    simp only [minI] at h
    cases e : minI (b :: r) with
    | none => rw [e] at h; cases h
    | some n =>
      obtain ⟨h1, h2⟩ := minI_spec e
      rw [e] at h
      cases h
      show (if n < a then n else a) ∈ _ ∧ ∀ y ∈ _, (if n < a then n else a) ≤ y
      by_cases hl : n < a
      · rw [if_pos hl]
        exact ⟨List.mem_cons_of_mem _ h1, fun y hy => (List.mem_cons.mp hy).elim (fun z => by omega) (h2 y)⟩
      · rw [if_neg hl]
        exact ⟨List.mem_cons_self, fun y hy => (List.mem_cons.mp hy).elim (fun z => by omega) fun z => by have := h2 y z; omega⟩
theorem prim_maxL : PrimR k (rMax k.X.K) (prim .maxL) := by
  intro Φ H vs ds e Q R h o
  change pMaxL ds = some e at h
  unfold pMaxL at h
  split at h
  · rename_i xs
    obtain ⟨v, rfl, r⟩ := R.one
    cases hs : asI xs with
    | none => rw [hs] at h; cases h
    | some ns =>
      rw [hs, Option.bind_some] at h
      cases hm : maxI ns with
      | none => rw [hm] at h; cases h
      | some m =>
        rw [hm] at h
        cases h
        obtain ⟨a, us, rfl, ho, r⟩ := r.lstI
        rw [r.ints hs] at ho
        obtain ⟨h1, h2⟩ := maxI_spec hm
        refine ⟨a, ns, rfl, SqL.of ho, List.length_pos_of_mem h1, fun m' k1 k2 => ?_⟩
        have : m' = m := Int.le_antisymm (h2 _ k1) (k2 _ h1)
        rw [this]
        exact o.d (.int _)
  · cases h

/-! ### min of a list or a tuple of ints, of a list of pairs of ints -/
def rMinTup (K : PySem.W.Frag) : List V → Hp → VK → Prop := fun vs H Q => ∃ (a : Addr) (ns : List Int), vs = [V.ref a] ∧ SqT K H a (ns.map V.int) ∧ 0 < ns.length ∧ ∀ m, m ∈ ns → (∀ y, y ∈ ns → m ≤ y) → Q (.int m) H
theorem alikeInts (ns : List Int) : AlikeAll (ns.map PyData.int) := ⟨fun x hx y hy => by
  obtain ⟨a, _, rfl⟩ := List.mem_map.mp hx
  obtain ⟨b, _, rfl⟩ := List.mem_map.mp hy
  simp [alike], fun x hx => by
  obtain ⟨a, _, rfl⟩ := List.mem_map.mp hx
  exact fun z => nomatch z⟩
theorem depthInts (ns : List Int) : PyData.depthAll (ns.map PyData.int) ≤ 1 := by
  induction ns with
  | nil => simp [PyData.depthAll]
  | cons n ns ih => rw [List.map_cons]; simp only [PyData.depthAll, PyData.depth]; omega
theorem dpInts {K : PySem.W.Frag} {H : Hp} : ∀ ns : List Int, DpAll K H (ns.map V.int) (ns.map PyData.int)
  | [] => .nil
  | n :: ns => .cons (.int n) (dpInts ns)
theorem foldl_min (n : Int) : ∀ ns : List Int, (ns.foldl min n) ∈ n :: ns ∧ ∀ y ∈ n :: ns, ns.foldl min n ≤ y := by
  intro ns
  induction ns generalizing n with
  | nil => simp
  | cons a r ih =>
    rw [List.foldl_cons]
    obtain ⟨h1, h2⟩ := ih (min n a)
    constructor
    · rcases List.mem_cons.mp h1 with h | h
      · rw [h]
        by_cases e : n ≤ a
        · rw [Int.min_eq_left e]; simp
        · rw [Int.min_eq_right (by omega)]; simp
      · exact List.mem_cons_of_mem _ (List.mem_cons_of_mem _ h)
    · intro y hy
      have h3 := h2 _ List.mem_cons_self
      rcases List.mem_cons.mp hy with h | h
      · rw [h]; omega
      · rcases List.mem_cons.mp h with h | h
        · rw [h]; omega
        · exact h2 y (List.mem_cons_of_mem _ h)
theorem cr_minTup {X : Cx} (hc : X.calm = true) (hu : X.A.units + 66 < cLine) : CallR X (.builtin "min") (rMinTup X.K) := by
  intro pins s σ H vs us Q I r h
  obtain ⟨a, ns, rfl, hs, hne, q⟩ := h
  obtain ⟨its, rv, hl, _⟩ := I.tuple hs
  rw [Vals.ref1 r]
  cases ns with
  | nil => cases hne
  | cons n ns =>
    obtain ⟨as, hr⟩ := Dp.readsAll I _ _ _ (dpInts (n :: ns)) rv
    refine min_tuple_data (x := .int n) (xs := ns.map .int) (I.ok.hd hc) hl (by simpa using hr) (alikeInts (n :: ns)) ?_ ?_
    · have := depthInts (n :: ns)
      rw [List.map_cons] at this
      omega
    · intro i v h' tk bs hv rd hk
      rw [minD_ints] at rd
      obtain ⟨h1, h2⟩ := foldl_min n ns
      cases rd
      exact ⟨.int _, H, I.kept hk, ⟨_, rfl⟩, q _ h1 h2⟩

def rMinAll (K : PySem.W.Frag) : List V → Hp → VK → Prop := fun vs H Q => rMin K vs H Q ∨ rMinTup K vs H Q
theorem cr_minAll {X : Cx} (hc : X.calm = true) (hu : X.A.units + 66 < cLine) : CallR X (.builtin "min") (rMinAll X.K) := (cr_min hc).or (cr_minTup hc hu)
theorem prim_minL : PrimR k (rMinAll k.X.K) (prim .minL) := by
  intro Φ H vs ds e Q R h o
  change pMinL ds = some e at h
  unfold pMinL at h
  split at h
  · rename_i xs
    obtain ⟨v, rfl, r⟩ := R.one
    cases hs : asI xs with
    | none => rw [hs] at h; cases h
    | some ns =>
      rw [hs, Option.bind_some] at h
      cases hm : minI ns with
      | none => rw [hm] at h; cases h
      | some m =>
        rw [hm] at h
        cases h
        obtain ⟨a, us, rfl, ho, r⟩ := r.lstI
        rw [r.ints hs] at ho
        obtain ⟨h1, h2⟩ := minI_spec hm
        refine .inl ⟨a, ns, rfl, SqL.of ho, List.length_pos_of_mem h1, fun m' k1 k2 => ?_⟩
        have : m' = m := Int.le_antisymm (k2 _ h1) (h2 _ k1)
        rw [this]
        exact o.d (.int _)
  · rename_i xs
    obtain ⟨v, rfl, r⟩ := R.one
    cases hs : asI xs with
    | none => rw [hs] at h; cases h
    | some ns =>
      rw [hs, Option.bind_some] at h
      cases hm : minI ns with
      | none => rw [hm] at h; cases h
      | some m =>
        rw [hm] at h
        cases h
        obtain ⟨a, us, rfl, ho, r⟩ := r.tupI
        rw [r.ints hs] at ho
        obtain ⟨h1, h2⟩ := minI_spec hm
        refine .inr ⟨a, ns, rfl, SqT.of ho, List.length_pos_of_mem h1, fun m' k1 k2 => ?_⟩
        have : m' = m := Int.le_antisymm (k2 _ h1) (h2 _ k1)
        rw [this]
        exact o.d (.int _)
  · cases h
def toPy (p : Int × Int) : PyData := .tuple [.int p.1, .int p.2]
def rMinP (K : PySem.W.Frag) : List V → Hp → VK → Prop := fun vs H Q => ∃ (a : Addr) (ws : List V) (ps : List (Int × Int)) (m : Int × Int), vs = [V.ref a] ∧ SqL K H a ws ∧ DpAll K H ws (ps.map toPy) ∧ minPair ps = some m ∧ ∀ (i : Nat) (w : V), ws[i]? = some w → ps[i]? = some m → Q w H
theorem alikePairs (ps : List (Int × Int)) : AlikeAll (ps.map toPy) := ⟨fun x hx y hy => by
  obtain ⟨a, _, rfl⟩ := List.mem_map.mp hx
  obtain ⟨b, _, rfl⟩ := List.mem_map.mp hy
  simp [toPy, alike, alikeAll], fun x hx => by
  obtain ⟨a, _, rfl⟩ := List.mem_map.mp hx
  exact fun z => nomatch z⟩
theorem depthPairs (ns : List (Int × Int)) : PyData.depthAll (ns.map toPy) ≤ 3 := by
  induction ns with
  | nil => simp [PyData.depthAll]
  | cons n ns ih => rw [List.map_cons]; simp only [PyData.depthAll, PyData.depth, toPy]; omega
theorem toPy_if (c : Bool) (a b : Int × Int) : (if c then toPy a else toPy b) = toPy (if c then a else b) := by cases c <;> rfl
theorem minD_pairs (p : Int × Int) : ∀ ps : List (Int × Int), minD (toPy p) (ps.map toPy) = toPy (ps.foldl (fun m y => if ltP y m then y else m) p) := by
  intro ps
  unfold minD
  induction ps generalizing p with
  | nil => rfl
  | cons q r ih =>
    rw [List.map_cons, List.foldl_cons, List.foldl_cons, ← ih]
    have e : dataLt (toPy q) (toPy p) = ltP q p := by
      show dataLt (.tuple [.int q.1, .int q.2]) (.tuple [.int p.1, .int p.2]) = _
      rw [dataLt_ii]
      unfold ltP
      by_cases h1 : q.1 < p.1 <;> by_cases h2 : q.1 = p.1 <;> by_cases h3 : q.2 < p.2 <;> simp [h1, h2, h3]
    rw [e, toPy_if]
theorem toPy_det {h : Heap} {v : Value} {p q : Int × Int} {as bs : List Addr} (r : Reads h v (toPy p) as) (r' : Reads h v (toPy q) bs) : p = q := by
  obtain ⟨p1, p2⟩ := p
  obtain ⟨q1, q2⟩ := q
  unfold toPy at r r'
  cases r with
  | tuple h1 h2 h3 h4 =>
    cases r' with
    | tuple k1 k2 k3 k4 =>
      rw [h1] at k1
      cases k1
      rw [h3] at k3
      cases k3
      generalize hl : Array.toList _ = l at h4 k4
      cases h4 with
      | cons a b => cases b with
        | cons c d => cases k4 with
          | cons a' b' => cases b' with
            | cons c' d' =>
              cases a
              cases a'
              cases c
              cases c'
              rfl
theorem cr_minP {X : Cx} (hc : X.calm = true) (hu : X.A.units + 66 < cLine) : CallR X (.builtin "min") (rMinP X.K) := by
  intro pins s σ H vs us Q I r h
  obtain ⟨a, ws, ps, m, rfl, hs, hd, hm, q⟩ := h
  obtain ⟨its, rv, hl, _⟩ := I.list hs
  rw [Vals.ref1 r]
  cases ps with
  | nil => cases hm
  | cons p ps =>
    cases hm
    obtain ⟨as, hr⟩ := Dp.readsAll I _ _ _ hd rv
    refine min_list_data (x := toPy p) (xs := ps.map toPy) (I.ok.hd hc) hl.isList (by simpa using hr) (alikePairs (p :: ps)) ?_ ?_
    · have := depthPairs (p :: ps)
      rw [List.map_cons] at this
      omega
    · intro i v h' tk bs hv rd hk
      rw [minD_pairs] at rd
      have I' : Inv X pins σ H { s with heap := h', toks := tk } := I.kept hk
      have hv' : its[i]? = some v := by simpa using hv
      have hi : i < its.length := (List.getElem?_eq_some_iff.mp hv').1
      have hlw := rv.length
      obtain ⟨w, ew⟩ : ∃ w, ws[i]? = some w := ⟨_, List.getElem?_eq_getElem (by omega)⟩
      obtain ⟨v', ev, rw'⟩ := rv.get ew
      rw [hv'] at ev
      cases ev
      have hda : ∀ (ws : List V) (qs : List (Int × Int)) (i : Nat) (w : V), DpAll X.K H ws (qs.map toPy) → ws[i]? = some w → ∃ q, qs[i]? = some q ∧ Dp X.K H w (toPy q) := by
        intro ws qs
        induction qs generalizing ws with
        | nil => intro i w z e; cases z; cases e
        | cons q qs ih =>
          intro i w z e
          rw [List.map_cons] at z
          cases z with
          | cons z1 z2 =>
            cases i with
            | zero => cases e; exact ⟨q, rfl, z1⟩
            | succ i => exact ih _ i w z2 e
      obtain ⟨q', eq', dq⟩ := hda ws (p :: ps) i w hd ew
      obtain ⟨as', r2⟩ := Dp.reads I' _ _ _ dq rw'
      have e := toPy_det r2 rd
      rw [e] at eq'
      exact ⟨w, H, I', rw', q i w ew eq'⟩
theorem pairs_dp {K : PySem.W.Frag} {fa : Nat → Addr} {Φ : Frz} {H : Hp} {vs : List V} {ds : List D} {ps : List (Int × Int)} (r : RDs K fa Φ H vs ds) (h : pairsI ds = some ps) : DpAll K H vs (ps.map toPy) ∧ ∀ (i : Nat) (w : V) (p : Int × Int), vs[i]? = some w → ps[i]? = some p → RD K fa Φ H w (.tup [.int p.1, .int p.2]) := by
  induction ds generalizing vs ps with
  | nil => cases r; cases h; exact ⟨.nil, fun i w p e => by cases e⟩
  | cons d ds ih =>
    cases r with
    | cons a b =>
      unfold pairsI at h
      cases e1 : pairI d with
      | none => rw [e1] at h; cases h
      | some p1 =>
        cases e2 : pairsI ds with
        | none => rw [e1, e2] at h; cases h
        | some p2 =>
          rw [e1, e2] at h
          cases h
          have ed : d = .tup [.int p1.1, .int p1.2] := by
            unfold pairI at e1
            split at e1
            · cases e1; rfl
            · cases e1
          obtain ⟨h1, h2⟩ := ih b e2
          subst ed
          refine ⟨.cons (a.dp rfl) h1, fun i w p ew ep => ?_⟩
          cases i with
          | zero => cases ew; cases ep; exact a
          | succ i => exact h2 i w p ew ep
theorem prim_minT : PrimR k (rMinP k.X.K) (prim .minT) := by
  intro Φ H vs ds e Q R h o
  change pMinT ds = some e at h
  unfold pMinT at h
  split at h
  · rename_i xs
    obtain ⟨v, rfl, r⟩ := R.one
    cases hs : pairsI xs with
    | none => rw [hs] at h; cases h
    | some ps =>
      rw [hs, Option.bind_some] at h
      cases hm : minPair ps with
      | none => rw [hm] at h; cases h
      | some m =>
        rw [hm] at h
        cases h
        obtain ⟨a, us, rfl, ho, r⟩ := r.lstI
        obtain ⟨h1, h2⟩ := pairs_dp r hs
        exact ⟨a, us, ps, m, rfl, SqL.of ho, h1, hm, fun i w ew ep => o.d (h2 i w m ew ep)⟩
  · cases h

/-! ### any, all, sorted -/
theorem prim_any : PrimR k (rAny k.X.K) (prim .any) := by
  intro Φ H vs ds e Q R h o
  change pAny ds = some e at h
  unfold pAny blD at h
  split at h
  · rename_i xs
    obtain ⟨v, rfl, r⟩ := R.one
    cases hs : asB xs with
    | none => rw [hs] at h; cases h
    | some bs =>
      rw [hs] at h
      cases h
      obtain ⟨a, us, rfl, ho, r⟩ := r.lstI
      rw [r.bools hs] at ho
      exact ⟨a, bs, rfl, SqL.of ho, o.d (.bl _)⟩
  · cases h
theorem prim_all : PrimR k (rAll k.X.K) (prim .all) := by
  intro Φ H vs ds e Q R h o
  change pAll ds = some e at h
  unfold pAll blD at h
  split at h
  · rename_i xs
    obtain ⟨v, rfl, r⟩ := R.one
    cases hs : asB xs with
    | none => rw [hs] at h; cases h
    | some bs =>
      rw [hs] at h
      cases h
      obtain ⟨a, us, rfl, ho, r⟩ := r.lstI
      rw [r.bools hs] at ho
      exact ⟨a, bs, rfl, SqL.of ho, o.d (.bl _)⟩
  · cases h
theorem insI_perm (a : Int) : ∀ xs : List Int, (insI a xs).Perm (a :: xs)
  | [] => .refl _
  | b :: r => by
    unfold insI
    by_cases h : a ≤ b
    · rw [if_pos h]
    · rw [if_neg h]
      exact ((insI_perm a r).cons b).trans (.swap a b r)
theorem insI_srt (a : Int) : ∀ xs : List Int, xs.Pairwise (· ≤ ·) → (insI a xs).Pairwise (· ≤ ·)
  | [], _ => by simp [insI]
  | b :: r, h => by
    unfold insI
    have h' := List.pairwise_cons.mp h
    by_cases e : a ≤ b
    · rw [if_pos e]
      refine List.pairwise_cons.mpr ⟨fun y hy => ?_, h⟩
      rcases List.mem_cons.mp hy with z | z
      · omega
      · have := h'.1 y z; omega
    · rw [if_neg e]
      refine List.pairwise_cons.mpr ⟨fun y hy => ?_, insI_srt a r h'.2⟩
      rcases List.mem_cons.mp ((insI_perm a r).mem_iff.mp hy) with z | z
      · omega
      · exact h'.1 y z
theorem sortI_perm : ∀ xs : List Int, (sortI xs).Perm xs
  | [] => .refl _
  | a :: r => (insI_perm a _).trans ((sortI_perm r).cons a)
theorem sortI_srt : ∀ xs : List Int, (sortI xs).Pairwise (· ≤ ·)
  | [] => List.Pairwise.nil
  | a :: r => insI_srt a _ (sortI_srt r)
theorem prim_sorted : PrimR k (rSortedI k.X.K) (prim .sorted) := by
  intro Φ H vs ds e Q R h o
  change pSorted ds = some e at h
  unfold pSorted at h
  split at h
  · rename_i xs
    obtain ⟨v, rfl, r⟩ := R.one
    cases hs : asI xs with
    | none => rw [hs] at h; cases h
    | some ns =>
      rw [hs, Option.bind_some] at h
      split at h
      · cases h
        obtain ⟨a, us, rfl, ho, r⟩ := r.lstI
        rw [r.ints hs] at ho
        refine ⟨a, ns, rfl, SqL.of ho, fun ns' p hp hsr hn => ?_⟩
        have e : ns' = sortI ns := List.Perm.eq_of_pairwise (fun _ _ _ _ a b => Int.le_antisymm a b) hsr (sortI_srt ns) (hp.trans (sortI_perm ns).symm)
        rw [e]
        exact o.l (RDs.ofInts _) p hn
      · cases h
  · cases h

/-! ### isinstance -/
def tyS : Ty → String
  | .int => "int"
  | .bool => "bool"
  | .str => "str"
  | .tuple => "tuple"
  | .list => "list"
def tyD : D → Option String
  | .non => some "NoneType"
  | .bl _ => some "bool"
  | .int _ => some "int"
  | .str _ => some "str"
  | .tup _ => some "tuple"
  | .lst _ => some "list"
  | .dk _ => some "dict"
  | .dt _ => some "dict"
  | _ => none
theorem kit_inst {t : Ty} {d : D} {b : Bool} (h : inst t d = some b) : ∃ s, tyD d = some s ∧ kitB s (tyS t) = some b := by
  cases d <;> cases t <;> first | (cases h; done) | (cases h; exact ⟨_, rfl, by decide +kernel⟩)
theorem RV.ty {K : PySem.W.Frag} {fa : Nat → Addr} {Φ : Frz} {H : Hp} {v : V} {x : D} {s : String} (r : RV K fa Φ H v x) (h : tyD x = some s) : TyX K H v (.type s) := by
  cases r with
  | of r =>
    cases r with
    | non => cases h; exact .base .non
    | bl b => cases h; exact .base (.bl b)
    | int b => cases h; exact .base (.int b)
    | str b => cases h; exact .base (.str b)
    | tup e _ => cases h; exact .base (.tup e)
    | lst _ e _ => cases h; exact .base (.lst e)
    | dk _ e _ => cases h; exact .base (.dK e)
    | dt _ e _ => cases h; exact .base (.dT e)
    | _ => cases h
  | lst e _ => cases h; exact .base (.lst e)
  | dk e _ => cases h; exact .base (.dK e)
  | dt e _ => cases h; exact .base (.dT e)
def rIsiT1 (K : PySem.W.Frag) (t : Ty) : V → Hp → VK → Prop := fun x H Q => ∃ (u : Value) (b : Bool), TyX K H x u ∧ PySem.W.kitOne K u (.type (tyS t)) = some b ∧ Q (.bl b) H
theorem ar_isi {t : Ty} {y : Str} {a : Expr} {as : As} {p p2 pos : Pos} (hg : Gl k.X "isinstance") (hm : k.X.mg "isinstance" = none) (hg2 : Gl k.X y) (hm2 : k.X.mg y = none) (hv : bootBuiltins y = some (.type (tyS t))) (h : PAs k [a] as) (hn : y ≠ "__name__" := by decide) (hdb : (y == ("__debug__" : Str)) = false := by decide)
    (he : starEach [a, .Name y p2] k.X.env = (false, eval a k.X.env) :: starEach [.Name y p2] k.X.env := by rfl) (he2 : starEach [.Name y p2] k.X.env = (false, eval (.Name y p2) k.X.env) :: starEach [] k.X.env := by rfl) (hpl : (backTo pos (starEach [.Name y p2] k.X.env)).any (·.1) = false := by rfl) :
    AR k (.Call (.Name "isinstance" p) [a, .Name y p2] [] pos) as (un1 (rIsiT1 k.X.K t)) := by
  obtain ⟨ta, h1, m, e⟩ := pas1m h
  show PE k.X _ fun σ H Q => tAs k as σ H fun vs H1 => un1 _ vs H1 Q
  rw [e]
  refine pe_of (pe_callB call_isi hg hm PyProof.Rows.boot_isinstance (pa_cons h1 (pa_cons (pe_bltn (v := .ty (tyS t)) hg2 hm2 hv rfl hn hdb) pa_nil he2) he) (by decide) (by decide) he hpl) fun σ H Q q => m σ H _ _ (fun v H' z => ?_) q
  obtain ⟨u, b, z1, z2, z3⟩ := z
  exact ⟨v, .ty (tyS t), u, _, b, rfl, .ty _, z1, z2, z3⟩
theorem prim_isinst {t : Ty} : PrimR k (un1 (rIsiT1 k.X.K t)) (prim (.isinst t)) := by
  intro Φ H vs ds e Q R h o
  change pIsinst t ds = some e at h
  unfold pIsinst blD at h
  split at h
  · rename_i x
    obtain ⟨v, rfl, r⟩ := R.one
    cases hs : inst t x with
    | none => rw [hs] at h; cases h
    | some b =>
      rw [hs] at h
      cases h
      obtain ⟨s, h1, h2⟩ := kit_inst hs
      exact ⟨_, b, r.ty h1, kit_ty h2, o.d (.bl _)⟩
  · cases h

/-! ### list(range(..)), tuple(range(..)) -/
theorem rgV_ok {K : PySem.W.Frag} {fa : Nat → Addr} {Φ : Frz} {H : Hp} (a b : Int) : RDs K fa Φ H (rgV a b) (rangeL a (b - a).toNat) := by
  unfold rgV
  generalize (b - a).toNat = n
  induction n generalizing a with
  | zero => exact .nil
  | succ n ih =>
    rw [List.range_succ_eq_map, List.map_cons, List.map_map]
    unfold rangeL
    have e : V.int (a + ((0 : Nat) : Int)) = V.int a := by simp
    rw [e]
    refine .cons (.int a) ?_
    have e2 : ((fun i : Nat => V.int (a + (i : Int))) ∘ Nat.succ) = fun i : Nat => V.int (a + 1 + (i : Int)) := by
      funext i
      simp only [Function.comp, V.int.injEq]
      omega
    rw [e2]
    exact ih (a + 1)
def rRg1 (f : List V → HO) : List V → Hp → VK → Prop := un1 fun x H Q => ∃ n, x = .int n ∧ RgOk 0 n ∧ ∀ q, H q = none → Q (.ref q) (upd H q (f (rgV 0 n)))
def rRg2 (f : List V → HO) : List V → Hp → VK → Prop := bin2 fun x y H Q => ∃ i j, x = .int i ∧ y = .int j ∧ RgOk i j ∧ ∀ q, H q = none → Q (.ref q) (upd H q (f (rgV i j)))
theorem rgOk_of {a b : Int} (h1 : small a = true) (h2 : small b = true) (h3 : few (b - a).toNat = true) : RgOk a b := by
  have h1 := of_decide_eq_true h1
  have h2 := of_decide_eq_true h2
  have h3 := of_decide_eq_true h3
  exact ⟨h1.1, h1.2, h2.1, h2.2, by omega⟩
theorem ar_lr1 {a : Expr} {as : As} {p p2 pos pos2 : Pos} (hc : k.X.calm = true) (hg : Gl k.X "list") (hm : k.X.mg "list" = none) (hg2 : Gl k.X "range") (hm2 : k.X.mg "range" = none) (h : PAs k [a] as)
    (na : starEach [a] k.X.env = (false, eval a k.X.env) :: starEach [] k.X.env := by rfl) (nb : starEach [Expr.Call (.Name "range" p2) [a] [] pos2] k.X.env = (false, eval (Expr.Call (.Name "range" p2) [a] [] pos2) k.X.env) :: starEach [] k.X.env := by rfl) :
    AR k (.Call (.Name "list" p) [.Call (.Name "range" p2) [a] [] pos2] [] pos) as (rRg1 .lst) := by
  obtain ⟨ta, h1, m, e⟩ := pas1m h
  show PE k.X _ fun σ H Q => tAs k as σ H fun vs H1 => rRg1 _ vs H1 Q
  rw [e]
  exact pe_listRg hc hg hm (prg_1 hg2 hm2 h1 na) nb
theorem ar_tr1 {a : Expr} {as : As} {p p2 pos pos2 : Pos} (hc : k.X.calm = true) (hg : Gl k.X "tuple") (hm : k.X.mg "tuple" = none) (hg2 : Gl k.X "range") (hm2 : k.X.mg "range" = none) (h : PAs k [a] as)
    (na : starEach [a] k.X.env = (false, eval a k.X.env) :: starEach [] k.X.env := by rfl) (nb : starEach [Expr.Call (.Name "range" p2) [a] [] pos2] k.X.env = (false, eval (Expr.Call (.Name "range" p2) [a] [] pos2) k.X.env) :: starEach [] k.X.env := by rfl) :
    AR k (.Call (.Name "tuple" p) [.Call (.Name "range" p2) [a] [] pos2] [] pos) as (rRg1 .tup) := by
  obtain ⟨ta, h1, m, e⟩ := pas1m h
  show PE k.X _ fun σ H Q => tAs k as σ H fun vs H1 => rRg1 _ vs H1 Q
  rw [e]
  exact pe_tupRg hc hg hm (prg_1 hg2 hm2 h1 na) nb
theorem ar_lr2 {a b : Expr} {as : As} {p p2 pos pos2 : Pos} (hc : k.X.calm = true) (hg : Gl k.X "list") (hm : k.X.mg "list" = none) (hg2 : Gl k.X "range") (hm2 : k.X.mg "range" = none) (h : PAs k [a, b] as)
    (na : starEach [a, b] k.X.env = (false, eval a k.X.env) :: starEach [b] k.X.env := by rfl) (na2 : starEach [b] k.X.env = (false, eval b k.X.env) :: starEach [] k.X.env := by rfl) (hp : (backTo pos2 (starEach [b] k.X.env)).any (·.1) = false := by rfl)
    (nb : starEach [Expr.Call (.Name "range" p2) [a, b] [] pos2] k.X.env = (false, eval (Expr.Call (.Name "range" p2) [a, b] [] pos2) k.X.env) :: starEach [] k.X.env := by rfl) :
    AR k (.Call (.Name "list" p) [.Call (.Name "range" p2) [a, b] [] pos2] [] pos) as (rRg2 .lst) := by
  obtain ⟨ta, tb, h1, h2, m, m', e⟩ := pas2m h
  show PE k.X _ fun σ H Q => tAs k as σ H fun vs H1 => rRg2 _ vs H1 Q
  rw [e]
  exact pe_listRg hc hg hm (prg_2 hg2 hm2 h1 h2 na na2 hp) nb
theorem ar_tr2 {a b : Expr} {as : As} {p p2 pos pos2 : Pos} (hc : k.X.calm = true) (hg : Gl k.X "tuple") (hm : k.X.mg "tuple" = none) (hg2 : Gl k.X "range") (hm2 : k.X.mg "range" = none) (h : PAs k [a, b] as)
    (na : starEach [a, b] k.X.env = (false, eval a k.X.env) :: starEach [b] k.X.env := by rfl) (na2 : starEach [b] k.X.env = (false, eval b k.X.env) :: starEach [] k.X.env := by rfl) (hp : (backTo pos2 (starEach [b] k.X.env)).any (·.1) = false := by rfl)
    (nb : starEach [Expr.Call (.Name "range" p2) [a, b] [] pos2] k.X.env = (false, eval (Expr.Call (.Name "range" p2) [a, b] [] pos2) k.X.env) :: starEach [] k.X.env := by rfl) :
    AR k (.Call (.Name "tuple" p) [.Call (.Name "range" p2) [a, b] [] pos2] [] pos) as (rRg2 .tup) := by
  obtain ⟨ta, tb, h1, h2, m, m', e⟩ := pas2m h
  show PE k.X _ fun σ H Q => tAs k as σ H fun vs H1 => rRg2 _ vs H1 Q
  rw [e]
  exact pe_tupRg hc hg hm (prg_2 hg2 hm2 h1 h2 na na2 hp) nb
theorem rgV_ok0 {K : PySem.W.Frag} {fa : Nat → Addr} {Φ : Frz} {H : Hp} (b : Int) : RDs K fa Φ H (rgV 0 b) (rangeL 0 b.toNat) := by
  have := rgV_ok (K := K) (fa := fa) (Φ := Φ) (H := H) 0 b
  rw [Int.sub_zero] at this
  exact this
theorem prim_lr1 : PrimR k (rRg1 .lst) (prim (.lrange 1)) := by
  intro Φ H vs ds e Q R h o
  change pLrange 1 ds = some e at h
  unfold pLrange at h
  split at h <;> first | (cases h; done) | contradiction | skip
  split at h
  · rename_i hc
    rw [Bool.and_eq_true] at hc
    obtain ⟨v, rfl, r⟩ := R.one
    cases h
    exact ⟨_, r.intI, rgOk_of (by decide) hc.1 (by rw [Int.sub_zero]; exact hc.2), o.l (rgV_ok0 _)⟩
  · cases h
theorem prim_tr1 : PrimR k (rRg1 .tup) (prim (.trange 1)) := by
  intro Φ H vs ds e Q R h o
  change pTrange 1 ds = some e at h
  unfold pTrange at h
  split at h <;> first | (cases h; done) | contradiction | skip
  split at h
  · rename_i hc
    rw [Bool.and_eq_true] at hc
    obtain ⟨v, rfl, r⟩ := R.one
    cases h
    exact ⟨_, r.intI, rgOk_of (by decide) hc.1 (by rw [Int.sub_zero]; exact hc.2), o.tup (rgV_ok0 _)⟩
  · cases h
theorem prim_lr2 : PrimR k (rRg2 .lst) (prim (.lrange 2)) := by
  intro Φ H vs ds e Q R h o
  change pLrange 2 ds = some e at h
  unfold pLrange at h
  split at h <;> first | (cases h; done) | contradiction | skip
  split at h
  · rename_i hc
    rw [Bool.and_eq_true, Bool.and_eq_true] at hc
    obtain ⟨v, w, rfl, r, r'⟩ := R.two
    cases h
    exact ⟨_, _, r.intI, r'.intI, rgOk_of hc.1.1 hc.1.2 hc.2, o.l (rgV_ok _ _)⟩
  · cases h
theorem prim_tr2 : PrimR k (rRg2 .tup) (prim (.trange 2)) := by
  intro Φ H vs ds e Q R h o
  change pTrange 2 ds = some e at h
  unfold pTrange at h
  split at h <;> first | (cases h; done) | contradiction | skip
  split at h
  · rename_i hc
    rw [Bool.and_eq_true, Bool.and_eq_true] at hc
    obtain ⟨v, w, rfl, r, r'⟩ := R.two
    cases h
    exact ⟨_, _, r.intI, r'.intI, rgOk_of hc.1.1 hc.1.2 hc.2, o.tup (rgV_ok _ _)⟩
  · cases h

/-! ### displays -/
/-- no slot is handed on as it is -/
def As.noS : As → Bool
  | .nil => true
  | .slt _ _ => false
  | .x _ r => r.noS
inductive AllV : List Arg → Prop
  | nil : AllV []
  | cons {e : E} {r : List Arg} : AllV r → AllV (.v e :: r)
theorem noS_all {c : Calls} : ∀ {as : As} {ρ ρ' : Env} {args : List Arg}, as.noS = true → evAs c as ρ = .ok (args, ρ') → AllV args
  | .nil, ρ, ρ', args, _, h => by cases h; exact .nil
  | .slt _ _, _, _, _, h, _ => by cases h
  | .x x r, ρ, ρ', args, h, e => by
    unfold evAs at e
    cases hx : evX c x ρ with
    | bad => rw [hx] at e; cases e
    | exc n => rw [hx] at e; cases e
    | ok p =>
      rw [hx] at e
      replace e : ((evAs c r p.2).bind fun q => .ok (.v p.1 :: q.1, q.2)) = R.ok (args, ρ') := e
      cases hr : evAs c r p.2 with
      | bad => rw [hr] at e; cases e
      | exc n => rw [hr] at e; cases e
      | ok q =>
        rw [hr] at e
        obtain ⟨a1, a2⟩ := q
        cases e
        exact .cons (noS_all (as := r) h hr)
section
variable {Φ : Frz} {H : Hp} {σ : L2.St} {ρ : Env} {fp : Fp} {G : List Addr}
theorem fill_rd {l : List Addr} {K : PySem.W.Frag} {fa : Nat → Addr} (s : EV.Sta K fa Φ H σ ρ fp G) {vs : List V} {as : List Arg} (ra : RAs K fa Φ H σ vs as l) : ∀ {ds : List D}, (∀ a ∈ l, a ∈ G) → AllV as → fillD ρ as = some ds → EV.RDs K fa (addF Φ G) H vs ds := by
  induction ra with
  | nil => intro ds _ _ h; cases h; exact .nil
  | s h1 ra ih => intro ds _ z; cases z
  | @v v vs e r l G' re ra ih =>
    intro ds hl z h
    cases z with
    | cons z =>
      unfold fillD at h
      cases f : fillD ρ r with
      | none => rw [f] at h; cases h
      | some b =>
        rw [f] at h
        cases h
        exact .cons (re.frz (fun _ z => .inl z) fun a z => .inr (hl a (List.mem_append_right _ z))) (ih (fun a z => hl a (List.mem_append_left _ z)) z f)
end
def PrimRD (k : Kx) (r : List V → Hp → VK → Prop) (f : List D → Option E) : Prop := ∀ (Φ : Frz) (H : Hp) (vs : List V) (ds : List D) (e : E) (Q : VK), k.RDs Φ H vs ds → f ds = some e → Out k Φ H e Q → r vs H Q
theorem px_prD {e : Expr} {p : Prim} {as : As} {r : List V → Hp → VK → Prop} (h : AR k e as r) (hp : PrimRD k r (prim p)) (hn : as.noS = true) : PX k e (.pr p as) :=
  pe_of h fun σ H Q ⟨ρ, Φ, fp, S, T, q⟩ => as_of as S T (by
    unfold evX at q
    cases ha : evAs k.c as ρ with
    | bad => rw [ha] at q; exact q
    | exc n => rw [ha] at q; exact q
    | ok x =>
      obtain ⟨args, ρ1⟩ := x
      have hv := noS_all hn ha
      rw [ha] at q
      intro vs Φ1 H1 fp1 G1 st S1 ra T1
      replace q : PostX k Φ H σ fp Q ((R.ofO ((fillD ρ1 args).bind (prim p))).bind fun e => .ok (e, ρ1)) := q
      cases hf : fillD ρ1 args with
      | none => rw [hf] at q; exact q.elim
      | some ds =>
        rw [hf, Option.bind_some] at q
        cases hd : prim p ds with
        | none => rw [hd] at q; exact q.elim
        | some e =>
          rw [hd] at q
          refine hp (addF Φ1 G1) H1 vs ds e Q (fill_rd S1 ra (fun _ z => z) hv hf) hd fun v H' G fr re => ?_
          obtain ⟨S2, st2⟩ := S1.frzAll.fresh fr
          exact q v _ H' fp1 G (st.frzAll.trans st2) S2 re (T1.ext fr.keep))
theorem prim_tup : PrimRD k (fun xs H Q => xs.length ≤ sizeLine ∧ ∀ p, H p = none → Q (.ref p) (upd H p (.tup xs))) (prim .tup) := by
  intro Φ H vs ds e Q R h o
  change pTup ds = some e at h
  unfold pTup at h
  split at h
  · rename_i hf
    cases h
    exact ⟨by rw [R.length]; exact few_ok hf, o.tup R⟩
  · cases h
theorem prim_lst : PrimRD k (fun xs H Q => xs.length ≤ sizeLine ∧ ∀ p, H p = none → Q (.ref p) (upd H p (.lst xs))) (prim .lst) := by
  intro Φ H vs ds e Q R h o
  change pLst ds = some e at h
  unfold pLst at h
  split at h
  · rename_i hf
    cases h
    exact ⟨by rw [R.length]; exact few_ok hf, o.l R⟩
  · cases h
theorem px_tup {es : List Expr} {as : As} {n : Nat} {pos : Pos} (h : PAs k es as) (hn : as.noS = true := by rfl) : PX k (.Tuple es n pos) (.pr .tup as) := px_prD (ar_tup h) prim_tup hn
theorem px_lst {es : List Expr} {as : As} {pos : Pos} (h : PAs k es as) (hn : as.noS = true := by rfl) : PX k (.List es pos) (.pr .lst as) := px_prD (ar_lst h) prim_lst hn
theorem px_newK {pos : Pos} : PX k (.Dict [] [] pos) (.pr .newK .nil) := by
  have h : AR k (.Dict [] [] pos) .nil (fun vs H Q => ∀ p, H p = none → Q (.ref p) (upd H p (.dK []))) := pe_dnewK
  refine px_pr h ?_
  intro Φ H vs ds e Q R h o
  change pNewK ds = some e at h
  unfold pNewK at h
  split at h
  · cases h
    intro p hp
    have f : Fresh H (upd H p (.dK [])) [p] := Fresh.one hp trivial
    exact o _ _ _ f (.dk upd_same .nil)
  · cases h
theorem px_newT {pos : Pos} : PX k (.Dict [] [] pos) (.pr .newT .nil) := by
  have h : AR k (.Dict [] [] pos) .nil (fun vs H Q => ∀ p, H p = none → Q (.ref p) (upd H p (.dT []))) := pe_dnewT
  refine px_pr h ?_
  intro Φ H vs ds e Q R h o
  change pNewT ds = some e at h
  unfold pNewT at h
  split at h
  · cases h
    intro p hp
    have f : Fresh H (upd H p (.dT [])) [p] := Fresh.one hp trivial
    exact o _ _ _ f (.dt upd_same .nil)
  · cases h
end
end EV
end
section
set_option linter.all false
set_option maxRecDepth 100000
/-! EvRev: t[::-1] of a tuple. -/
namespace EV
open PySem PySem.W L2 PySem.Spec PyProof.Rows HT
section
variable {prog : Program} {w : World} {A : Around} {E : Value → Shared → Prop} {s : Shared}
theorem adjust_rev (n : Nat) : Builtin.Slice.sliceAdjust none none (-1) (n : Int) = ((n : Int) - 1, -1) := rfl
theorem places_rev (n : Nat) : Builtin.Slice.slicePlaces ((n : Int) - 1) (-1) (-1) = n := by
  unfold Builtin.Slice.slicePlaces
  have h1 : ¬ ((-1 : Int) > 0) := by decide
  rw [if_neg h1]
  by_cases h : (n : Int) - 1 > -1
  · rw [if_pos h]
    have e : (- -1 : Int) = 1 := by decide
    rw [e, Int.ediv_one]
    omega
  · rw [if_neg h]
    omega
theorem sliceApplied_rev {sl : Addr} {t : Tok} {n : Nat} {Q : Int × Int × Nat → Shared → Prop} (hs : s.heap.IsSliceOf sl .none .none (.int (-1) t))
    (h : Q ((n : Int) - 1, -1, n) s) : wpAny (model prog w) A (Builtin.Slice.sliceApplied (.ref sl) (pure (n : Int))) Q E s := by
  obtain ⟨os, hos, hcs, hds⟩ := id hs
  unfold Builtin.Slice.sliceApplied Builtin.Slice.sliceFields
  refine wpAny_bind (wpAny_bind (wpAny_field hos hds (x := .none) rfl (wpAny_bind (wpAny_field hos hds (x := .none) rfl (wpAny_bind (wpAny_field hos hds (x := .int (-1) t) rfl (wpAny_pure ?_)))))))
  refine wpAny_bind (slicePart_int ?_)
  show wpAny _ _ (if ((-1 : Int) == 0) = true then _ else _) _ _ s
  rw [if_neg (by decide)]
  refine wpAny_bind (slicePart_none (wpAny_bind (slicePart_none (wpAny_bind (wpAny_pure ?_)))))
  show wpAny _ _ (match Builtin.Slice.sliceAdjust none none (-1) (n : Int) with | (lo, hi) => pure (lo, (-1 : Int), Builtin.Slice.slicePlaces lo hi (-1))) _ _ s
  rw [adjust_rev n]
  show wpAny _ _ (pure (((n : Int) - 1), (-1 : Int), Builtin.Slice.slicePlaces ((n : Int) - 1) (-1) (-1))) _ _ s
  rw [places_rev]
  exact wpAny_pure h
theorem fm_congr {α β : Type} {f g : α → Option β} : ∀ {l : List α}, (∀ x ∈ l, f x = g x) → l.filterMap f = l.filterMap g
  | [], _ => rfl
  | x :: l, h => by
    rw [List.filterMap_cons, List.filterMap_cons, h x List.mem_cons_self, fm_congr fun y hy => h y (List.mem_cons_of_mem _ hy)]
theorem pick_rev (xs : Array Value) : ((List.range xs.size).filterMap fun (m : Nat) => xs[(((xs.size : Int) - 1) + (m : Int) * (-1)).toNat]?).toArray = xs.toList.reverse.toArray := by
  have e : (List.range xs.size).filterMap (fun (m : Nat) => xs[(((xs.size : Int) - 1) + (m : Int) * (-1)).toNat]?) = ((List.range xs.size).map fun m => xs.size - 1 - m).filterMap (xs[·]?) := by
    rw [List.filterMap_map]
    apply fm_congr
    intro m hm
    have := List.mem_range.mp hm
    have : (((xs.size : Int) - 1) + (m : Int) * (-1)).toNat = xs.size - 1 - m := by omega
    rw [this]
    rfl
  rw [e, krv_range, List.filterMap_reverse, krv_all]
theorem getItem_tuple_rev {t sl : Addr} {items : Array Value} {tk : Tok} {Q : Value → Shared → Prop} (ht : IsTup s.heap t items) (hs : s.heap.IsSliceOf sl .none .none (.int (-1) tk))
    (h : Q (.ref s.heap.objs.size) { s with heap := s.heap.push { cls := .type "tuple", data := .seq items.toList.reverse.toArray } })
    (hsz : items.size ≤ sizeLine) : wpAny (model prog w) A (getItem (.ref t) (.ref sl)) Q E s := by
  have htake : sizeOk (.seq items.toList.reverse.toArray) := by
    show items.toList.reverse.toArray.size ≤ sizeLine
    rw [List.size_toArray, List.length_reverse, Array.length_toList]
    exact hsz
  obtain ⟨os, hos, hcs, hds⟩ := id hs
  have hTs : s.TypeIs (.ref sl) "slice" := ⟨os, hos, hcs⟩
  unfold getItem
  try with_reducible refine wpAny_holding ?_
  first | refine wpAny_bind (wpAny_pure ?_) | skip
  refine wpAny_bind (wpAny_sequenceKey ht.typeIs (by decide) ?_)
  refine wpAny_bind (wpAny_callSpecial?_slot (name := Str.ofString "__getitem__") ht.typeIs PyProof.Rows.slot_tuple_getitem
    (wpAny_call_entry PyProof.Rows.slot_tuple_getitem ht.typeIs entry_tuple_getitem ?_ (args_tuple_getitem _ _)))
  show wpAny _ _ (Builtin.Tuple.tupleItemsOf (.ref t) >>= _) _ _ s
  refine wpAny_bind (tupleItemsOf_ ht ?_)
  refine wpAny_bind (wpAny_typeOf hTs ?_)
  rw [if_pos (by decide)]
  refine wpAny_bind (sliceApplied_rev hs ?_)
  have hno : ¬ ((((items.size : Int) - 1) == 0 && (-1 : Int) == 1 && items.size == items.size) = true) := by simp
  show wpAny _ _ (if (((items.size : Int) - 1) == 0 && (-1 : Int) == 1 && items.size == items.size) = true then _ else _) _ _ s
  rw [if_neg hno, pick_rev]
  first
    | exact wpAny_bind (m := Builtin.Tuple.tupleExact _) (wpAny_newObj_type (wpAny_pure ⟨_, rfl, wpAny_pure h⟩) htake)
    | exact wpAny_bind (wpAny_newObj_type (wpAny_pure ⟨_, rfl, wpAny_pure h⟩) htake)
end
/-- x[::-1], a list or a tuple -/
def rRevA (K : PySem.W.Frag) : V → Hp → VK → Prop := fun x H1 Q => ∃ a xs, x = .ref a ∧ ((SqL K H1 a xs ∧ ∀ p, H1 p = none → Q (.ref p) (upd H1 p (.lst xs.reverse))) ∨ (SqT K H1 a xs ∧ ∀ p, H1 p = none → Q (.ref p) (upd H1 p (.tup xs.reverse))))
theorem pe_revA {X : Cx} {e : Expr} {te : TE} {k : Nat} {p1 p2 p3 pos : Pos} (he : PE X e te) : PE X (.Subscript e (.Slice none none (some (.UnaryOp .USub (.Constant (.int 1) k p1) p2)) p3) pos) (fun σ H Q => te σ H fun x H1 => rRevA X.K x H1 Q) := by
  refine ⟨fun pins s σ H Q I h => ?_⟩
  refine Subscript_ (thn (he.run pins s σ H _ I h) fun v s1 ⟨x, H1, I1, r1, q1⟩ => ?_)
  obtain ⟨a, xs, ex, q⟩ := q1
  subst ex
  cases r1
  have hst : PO X (some (.UnaryOp .USub (.Constant (.int 1) k p1) p2)) (tPart (tUn (rU fun i => .int (-i)) (tC (.int 1)))) := po_some (pe_un un_neg pe_int)
  refine wpAny_Slice (thn (po_none.run pins s1 σ H1 (fun o H2 => o = none ∧ H2 = H1) I1 ⟨rfl, rfl⟩) fun vl s2 ⟨l, H2, I2, pl, el, e2⟩ => ?_)
  subst el e2
  refine thn (po_none.run pins s2 σ H2 (fun o H3 => o = none ∧ H3 = H2) I2 ⟨rfl, rfl⟩) fun vu s3 ⟨u, H3, I3, pu, eu, e3⟩ => ?_
  subst eu e3
  refine thn (hst.run pins s3 σ H3 (fun o H4 => o = some (-1) ∧ H4 = H3) I3 ⟨1, rfl, -1, rfl, rfl, rfl⟩) fun vs s4 ⟨o, H4, I4, ps, eo, e4⟩ => ?_
  subst eo e4
  have I5 : Inv X pins σ H4 { s4 with heap := s4.heap.push { cls := .type "slice", data := .fields #[vl, vu, vs] } } := I4.kept (t' := s4.toks) fun b ob q => Heap.get?_push_of_some _ q
  rcases q with ⟨hx, q⟩ | ⟨hx, q⟩
  · obtain ⟨its, r, ht, hz⟩ := I5.list hx
    have hlen := r.length
    show wpAny (model X.prog X.w) X.A (subscriptTail e (.Slice none none (some (.UnaryOp .USub (.Constant (.int 1) k p1) p2)) p3) (.ref a) (.ref s4.heap.objs.size)) (EP X pins σ Q) X.xe { s4 with heap := s4.heap.push { cls := .type "slice", data := .fields #[vl, vu, vs] } }
    refine tail_any (ops := [.ref a, .ref s4.heap.objs.size]) ht.isList.typeIs (PySem.slot_list_getitem.lookup) ?_ (by with_unfolding_all rfl)
    refine wpAny_getItem_list_slice ht.isList (Heap.IsSliceOf.new _ vl vu vs) pl pu ps (by decide) ?_ (by rw [List.size_toArray]; omega)
    rw [PySem.W.krv_pick]
    refine ⟨.ref _, _, I5.laid (t' := s4.toks) (o := .lst xs.reverse) (fun b ob q => Heap.get?_push_of_some _ q) (Nat.le_refl _) ?_, rfl, q _ (I5.hok.fresh (Nat.le_refl _))⟩
    exact ⟨by rw [List.length_reverse]; exact hz, _, 0, r.reverse, Heap.get?_push_size _ rfl⟩
  · cases pl
    cases pu
    cases ps
    obtain ⟨its, r, ht, hz⟩ := I5.tuple hx
    have hlen := r.length
    show wpAny (model X.prog X.w) X.A (subscriptTail e (.Slice none none (some (.UnaryOp .USub (.Constant (.int 1) k p1) p2)) p3) (.ref a) (.ref s4.heap.objs.size)) (EP X pins σ Q) X.xe { s4 with heap := s4.heap.push { cls := .type "slice", data := .fields #[.none, .none, .int (-1) _] } }
    refine tail_any (ops := [.ref a, .ref s4.heap.objs.size]) ht.typeIs (PyProof.Rows.slot_tuple_getitem.lookup) ?_ (by with_unfolding_all rfl)
    refine getItem_tuple_rev ht (Heap.IsSliceOf.new _ _ _ _) ?_ (by rw [List.size_toArray]; omega)
    refine ⟨.ref _, _, I5.laid (t' := s4.toks) (o := .tup xs.reverse) (fun b ob q => Heap.get?_push_of_some _ q) (Nat.le_refl _) ?_, rfl, q _ (I5.hok.fresh (Nat.le_refl _))⟩
    exact ⟨by rw [List.length_reverse]; exact hz, _, r.reverse, IsTup.new _ _⟩
section
variable {k : Kx}
theorem ar_rev {a : Expr} {as : As} {n : _} {p1 p2 p3 pos : Pos} (h : PAs k [a] as) : AR k (.Subscript a (.Slice none none (some (.UnaryOp .USub (.Constant (.int 1) n p1) p2)) p3) pos) as (un1 (rRevA k.X.K)) := by
  obtain ⟨ta, h1, m, e⟩ := pas1m h
  show PE k.X _ fun σ H Q => tAs k as σ H fun vs H1 => un1 _ vs H1 Q
  rw [e]
  exact pe_revA h1
theorem prim_rev : PrimR k (un1 (rRevA k.X.K)) (prim .rev) := by
  intro Φ H vs ds e Q R h o
  change pRev ds = some e at h
  unfold pRev at h
  split at h
  · obtain ⟨v, rfl, r⟩ := R.one
    cases h
    obtain ⟨a, us, hw, ho, r⟩ := r.lstI
    exact ⟨a, us, hw, .inl ⟨SqL.of ho, o.l r.reverse⟩⟩
  · obtain ⟨v, rfl, r⟩ := R.one
    cases h
    obtain ⟨a, us, hw, ho, r⟩ := r.tupI
    exact ⟨a, us, hw, .inr ⟨SqT.of ho, o.tup r.reverse⟩⟩
  · cases h
end
end EV
end
section
set_option linter.all false
set_option maxRecDepth 100000
/-! EvLog: tests, not, and, or, chains, if-expressions. -/
namespace EV
open PySem PySem.W L2 PySem.Spec PyProof.Rows
section
variable {k : Kx} {Φ Φ' : Frz} {H H' : Hp} {σ : L2.St} {fp fp' : Fp} {G : List Addr}
theorem PostX.later {Q : VK} (st : Stp Φ H fp Φ' H' fp' G) : ∀ {r : R (E × Env)}, PostX k Φ H σ fp Q r → PostX k Φ' H' σ fp' Q r
  | .ok (e, ρ), q => fun v Φ'' H'' fp'' G'' a b c d => q v Φ'' H'' fp'' G'' (st.trans a) b c d
  | .exc n, q => exc_later st q
  | .bad, q => q
theorem PostT.later {Q : Bool → Hp → Prop} (st : Stp Φ H fp Φ' H' fp' G) : ∀ {r : R (Bool × Env)}, PostT k Φ H σ fp Q r → PostT k Φ' H' σ fp' Q r
  | .ok (e, ρ), q => fun Φ'' H'' fp'' a b c => q Φ'' H'' fp'' (st.trans a) b c
  | .exc n, q => exc_later st q
  | .bad, q => q
/-- a test by its value -/
theorem tt_tx {x : X} {σ : L2.St} {H : Hp} {Q : Bool → Hp → Prop} (h : TT k x σ H Q) : TX k x σ H (fun v H' => ∃ c, v = .bl c ∧ Q c H') := by
  obtain ⟨ρ, Φ, fp, S, T, q⟩ := h
  refine ⟨ρ, Φ, fp, S, T, ?_⟩
  cases hx : evX k.c x ρ with
  | bad => rw [hx] at q; exact q
  | exc n => rw [hx] at q; exact q
  | ok p =>
    rw [hx] at q
    obtain ⟨e, ρ1⟩ := p
    unfold isB at q
    split at q
    · rename_i b ρ2 hz
      cases hz
      intro v Φ' H' fp' G' st S re T
      obtain ⟨rd, hG⟩ := re.dI
      subst hG
      cases rd
      exact ⟨_, rfl, q Φ' H' fp' st S T⟩
    · rename_i hz
      cases hz
    · exact q.elim
theorem ptx_test {e : Expr} {x : X} {t : TE} (h : PT k.X e (tTest t)) (hh : ∀ σ H Q, TX k x σ H Q → t σ H Q) : PTX k e x :=
  pt_of h fun σ H Q q => hh σ H _ (tt_tx q)
theorem ptx_val {e : Expr} {x : X} (h : PX k e x) (he : ∀ whole, isTrue e k.X.env whole = (do let v ← whole; standAt e.pos; holding [v] (truthy v)) := by intro _; rfl) : PTX k e x :=
  ptx_test (pt_val h he) fun _ _ _ q => q

/-! ### operations -/
theorem tx_pr {p : Prim} {as : As} {r : List V → Hp → VK → Prop} (hp : PrimR k r (prim p)) {σ : L2.St} {H : Hp} {Q : VK} (h : TX k (.pr p as) σ H Q) : tAs k as σ H fun vs H1 => r vs H1 Q := by
  obtain ⟨ρ, Φ, fp, S, T, q⟩ := h
  exact as_of as S T (by
    unfold evX at q
    cases ha : evAs k.c as ρ with
    | bad => rw [ha] at q; exact q
    | exc n => rw [ha] at q; exact q
    | ok x =>
      obtain ⟨args, ρ1⟩ := x
      rw [ha] at q
      intro vs Φ1 H1 fp1 G1 st S1 ra T1
      replace q : PostX k Φ H σ fp Q ((R.ofO ((fillD ρ1 args).bind (prim p))).bind fun e => .ok (e, ρ1)) := q
      cases hf : fillD ρ1 args with
      | none => rw [hf] at q; exact q.elim
      | some ds =>
        rw [hf, Option.bind_some] at q
        cases hd : prim p ds with
        | none => rw [hd] at q; exact q.elim
        | some e =>
          rw [hd] at q
          refine hp (addF Φ1 G1) H1 vs ds e Q (fill_ok S1 ra (fun _ z => z) hf) hd fun v H' G fr re => ?_
          obtain ⟨S2, st2⟩ := S1.frzAll.fresh fr
          exact q v _ H' fp1 G (st.frzAll.trans st2) S2 re (T1.ext fr.keep))
theorem px_bin {a b : Expr} {as : As} {op : Operator} {r : R2} {p : Prim} {pos : Pos} (ho : OpR k.X (binaryOp op) r) (hp : PrimR k (bin2 r) (prim p)) (h : PAs k [a, b] as) : PX k (.BinOp a op b pos) (.pr p as) := px_pr (ar_bin ho h) hp
theorem px_cmp {a b : Expr} {as : As} {op : CmpOp} {r : R2} {p : Prim} {pos : Pos} (ho : OpR k.X (compareOp op) r) (hp : PrimR k (bin2 r) (prim p)) (h : PAs k [a, b] as) (hm : behindInMarks op b = false := by first | rfl | with_unfolding_all rfl) : PX k (.Compare a [op] [b] pos) (.pr p as) := px_pr (ar_cmp ho h hm) hp
theorem ptx_cmp {a b : Expr} {as : As} {op : CmpOp} {r : R2} {p : Prim} {pos : Pos} (ho : OpR k.X (compareOp op) r) (hp : PrimR k (bin2 r) (prim p)) (h : PAs k [a, b] as) (hm : behindInMarks op b = false := by first | rfl | with_unfolding_all rfl) : PTX k (.Compare a [op] [b] pos) (.pr p as) := by
  obtain ⟨ta, tb, h1, h2, e⟩ := pas2 h
  refine ptx_test (pt_cmpR ho h1 h2 hm) fun σ H Q q => ?_
  have q := tx_pr hp q
  rw [e] at q
  exact q
theorem px_isN {a : Expr} {as : As} {j} {p pos : Pos} (h : PAs k [a] as) : PX k (.Compare a [.Is] [.Constant .none j p] pos) (.pr .isnone as) := px_pr (ar_isN h) prim_isnone
theorem px_notN {a : Expr} {as : As} {j} {p pos : Pos} (h : PAs k [a] as) : PX k (.Compare a [.IsNot] [.Constant .none j p] pos) (.pr .notnone as) := px_pr (ar_notN h) prim_notnone
theorem ptx_isN {a : Expr} {as : As} {j} {p pos : Pos} (h : PAs k [a] as) : PTX k (.Compare a [.Is] [.Constant .none j p] pos) (.pr .isnone as) := by
  obtain ⟨ta, h1, m, e⟩ := pas1m h
  refine ptx_test (pt_cmpR op_isN h1 pe_non rfl) fun σ H Q q => ?_
  have q := tx_pr prim_isnone q
  rw [e] at q
  exact m σ H _ _ (fun v H' z => ⟨rfl, z⟩) q
theorem ptx_notN {a : Expr} {as : As} {j} {p pos : Pos} (h : PAs k [a] as) : PTX k (.Compare a [.IsNot] [.Constant .none j p] pos) (.pr .notnone as) := by
  obtain ⟨ta, h1, m, e⟩ := pas1m h
  refine ptx_test (pt_cmpR op_notN h1 pe_non rfl) fun σ H Q q => ?_
  have q := tx_pr prim_notnone q
  rw [e] at q
  exact m σ H _ _ (fun v H' z => ⟨rfl, z⟩) q

/-! ### not, and, or -/
theorem px_not {a : Expr} {x : X} {pos : Pos} (h : PX k a x) : PX k (.UnaryOp .Not a pos) (.not x) :=
  pe_of (pe_not h) fun σ H Q ⟨ρ, Φ, fp, S, T, q⟩ => ⟨ρ, Φ, fp, S, T, by
    unfold evX at q
    cases hx : evX k.c x ρ with
    | bad => rw [hx] at q; exact q
    | exc n => rw [hx] at q; exact q
    | ok p =>
      rw [hx] at q
      obtain ⟨e, ρ1⟩ := p
      unfold isB at q
      split at q
      · rename_i b ρ2 hz
        cases hz
        intro v Φ' H' fp' G' st S re T
        obtain ⟨rd, hG⟩ := re.dI
        subst hG
        cases rd
        exact ⟨_, rfl, q _ Φ' H' fp' [] st S (.d (.bl _)) T⟩
      · rename_i hz
        cases hz
      · exact q.elim⟩
theorem ptx_not {a : Expr} {x : X} {pos : Pos} (h : PTX k a x) : PTX k (.UnaryOp .Not a pos) (.not x) :=
  pt_of (pt_not h) fun σ H Q ⟨ρ, Φ, fp, S, T, q⟩ => ⟨ρ, Φ, fp, S, T, by
    unfold evX at q
    cases hx : isB (evX k.c x ρ) with
    | bad => rw [hx] at q; exact q
    | exc n => rw [hx] at q; exact q
    | ok p =>
      rw [hx] at q
      exact fun Φ' H' fp' st S T => q Φ' H' fp' st S T⟩
abbrev PWX (k : Kx) (e : Expr) (x : X) : Prop := PW k.X e (TT k x)
theorem ptx_w {e : Expr} {x : X} (h : PWX k e x) : PTX k e x := ⟨fun pins s σ H Q I q => h.run _ pins s σ H Q I q⟩
theorem pwx_and1 {a : Expr} {x : X} {pos : Pos} (h : PTX k a x) : PWX k (.BoolOp .And [a] pos) x := pw_and1 h
theorem pwx_or1 {a : Expr} {x : X} {pos : Pos} (h : PTX k a x) : PWX k (.BoolOp .Or [a] pos) x := pw_or1 h
theorem pw_of {X : Cx} {e : Expr} {t t' : L2.TT} (h : PW X e t) (hh : ∀ σ H Q, t' σ H Q → t σ H Q) : PW X e t' := ⟨fun wh pins s σ H Q I q => h.run wh pins s σ H Q I (hh σ H Q q)⟩
theorem isB_bl (b : Bool) (ρ : Env) : isB (.ok (.d (.bl b), ρ)) = .ok (b, ρ) := rfl
theorem isB_re {c : R (Bool × Env)} : isB (c.bind fun q => .ok (.d (.bl q.1), q.2)) = c := by
  cases c with
  | ok p => rfl
  | exc n => rfl
  | bad => rfl
theorem isB_bind {α : Type} {c : R α} {f : α → R (E × Env)} : isB (c.bind f) = c.bind fun a => isB (f a) := by cases c <;> rfl
theorem pwx_and {a b : Expr} {rest : List Expr} {x y : X} {pos : Pos} (h : PTX k a x) (h2 : PWX k (.BoolOp .And (b :: rest) pos) y) : PWX k (.BoolOp .And (a :: b :: rest) pos) (.and x y) :=
  pw_of (pw_and h h2) fun σ H Q ⟨ρ, Φ, fp, S, T, q⟩ => ⟨ρ, Φ, fp, S, T, by
    unfold evX at q
    rw [isB_bind] at q
    cases hx : isB (evX k.c x ρ) with
    | bad => rw [hx] at q; exact q
    | exc n => rw [hx] at q; exact q
    | ok p =>
      obtain ⟨b0, ρ1⟩ := p
      rw [hx] at q
      intro Φ' H' fp' st S' T'
      cases b0 with
      | false => exact q Φ' H' fp' st S' T'
      | true =>
        replace q : PostT k Φ H σ fp Q (isB ((isB (evX k.c y ρ1)).bind fun q => .ok (.d (.bl q.1), q.2))) := q
        rw [isB_re] at q
        exact ⟨ρ1, Φ', fp', S', T', q.later st⟩⟩
theorem pwx_or {a b : Expr} {rest : List Expr} {x y : X} {pos : Pos} (h : PTX k a x) (h2 : PWX k (.BoolOp .Or (b :: rest) pos) y) : PWX k (.BoolOp .Or (a :: b :: rest) pos) (.or x y) :=
  pw_of (pw_or h h2) fun σ H Q ⟨ρ, Φ, fp, S, T, q⟩ => ⟨ρ, Φ, fp, S, T, by
    unfold evX at q
    rw [isB_bind] at q
    cases hx : isB (evX k.c x ρ) with
    | bad => rw [hx] at q; exact q
    | exc n => rw [hx] at q; exact q
    | ok p =>
      obtain ⟨b0, ρ1⟩ := p
      rw [hx] at q
      intro Φ' H' fp' st S' T'
      cases b0 with
      | true => exact q Φ' H' fp' st S' T'
      | false =>
        replace q : PostT k Φ H σ fp Q (isB ((isB (evX k.c y ρ1)).bind fun q => .ok (.d (.bl q.1), q.2))) := q
        rw [isB_re] at q
        exact ⟨ρ1, Φ', fp', S', T', q.later st⟩⟩
theorem px_and1 {a : Expr} {x : X} {pos : Pos} (h : PX k a x) : PX k (.BoolOp .And [a] pos) x := pe_one h
theorem px_or1 {a : Expr} {x : X} {pos : Pos} (h : PX k a x) : PX k (.BoolOp .Or [a] pos) x := pe_one h
/-- what isB lets through is a bool -/
theorem PostX.bool {Q : VK} {c : R (E × Env)} (q : PostX k Φ H σ fp Q ((isB c).bind fun q => .ok (.d (.bl q.1), q.2))) : PostX k Φ H σ fp Q c := by
  cases c with
  | bad => exact q
  | exc n => exact q
  | ok p =>
    obtain ⟨e, ρ1⟩ := p
    unfold isB at q
    split at q
    · rename_i hz
      cases hz
      exact q
    · rename_i hz
      cases hz
    · exact q.elim
theorem px_and {a b : Expr} {rest : List Expr} {x y : X} {pos : Pos} (h : PX k a x) (h2 : PX k (.BoolOp .And (b :: rest) pos) y) : PX k (.BoolOp .And (a :: b :: rest) pos) (.and x y) :=
  pe_of (pe_and h h2) fun σ H Q ⟨ρ, Φ, fp, S, T, q⟩ => ⟨ρ, Φ, fp, S, T, by
    unfold evX at q
    cases hx : evX k.c x ρ with
    | bad => rw [hx] at q; exact q
    | exc n => rw [hx] at q; exact q
    | ok p =>
      rw [hx] at q
      obtain ⟨e, ρ1⟩ := p
      unfold isB at q
      split at q
      · rename_i b0 ρ2 hz
        cases hz
        intro v Φ' H' fp' G' st S re T
        obtain ⟨rd, hG⟩ := re.dI
        subst hG
        cases rd
        refine ⟨_, rfl, ?_⟩
        cases b0 with
        | false => exact q _ Φ' H' fp' [] st S (.d (.bl _)) T
        | true => exact ⟨ρ1, Φ', fp', S, T, (PostX.bool q).later st⟩
      · rename_i hz
        cases hz
      · exact q.elim⟩
theorem px_or {a b : Expr} {rest : List Expr} {x y : X} {pos : Pos} (h : PX k a x) (h2 : PX k (.BoolOp .Or (b :: rest) pos) y) : PX k (.BoolOp .Or (a :: b :: rest) pos) (.or x y) :=
  pe_of (pe_or h h2) fun σ H Q ⟨ρ, Φ, fp, S, T, q⟩ => ⟨ρ, Φ, fp, S, T, by
    unfold evX at q
    cases hx : evX k.c x ρ with
    | bad => rw [hx] at q; exact q
    | exc n => rw [hx] at q; exact q
    | ok p =>
      rw [hx] at q
      obtain ⟨e, ρ1⟩ := p
      unfold isB at q
      split at q
      · rename_i b0 ρ2 hz
        cases hz
        intro v Φ' H' fp' G' st S re T
        obtain ⟨rd, hG⟩ := re.dI
        subst hG
        cases rd
        refine ⟨_, rfl, ?_⟩
        cases b0 with
        | true => exact q _ Φ' H' fp' [] st S (.d (.bl _)) T
        | false => exact ⟨ρ1, Φ', fp', S, T, (PostX.bool q).later st⟩
      · rename_i hz
        cases hz
      · exact q.elim⟩
/-- a if t else b -/
theorem px_ite {c a b : Expr} {x y z : X} {pos : Pos} (hc : PTX k c x) (ha : PX k a y) (hb : PX k b z) : PX k (.IfExp c a b pos) (.ite x y z) :=
  pe_of (pe_ifExp hc ha hb) fun σ H Q ⟨ρ, Φ, fp, S, T, q⟩ => ⟨ρ, Φ, fp, S, T, by
    unfold evX at q
    cases hx : isB (evX k.c x ρ) with
    | bad => rw [hx] at q; exact q
    | exc n => rw [hx] at q; exact q
    | ok p =>
      obtain ⟨b0, ρ1⟩ := p
      rw [hx] at q
      intro Φ' H' fp' st S' T'
      cases b0 with
      | true => exact ⟨ρ1, Φ', fp', S', T', PostX.later (r := evX k.c y ρ1) st q⟩
      | false => exact ⟨ρ1, Φ', fp', S', T', PostX.later (r := evX k.c z ρ1) st q⟩⟩

/-! ### a op b op c -/
theorem tx_chn {o1 o2 : Prim} {r1 r2 : R2} {x y z : X} (h1 : PrimR k (bin2 r1) (prim o1)) (h2 : PrimR k (bin2 r2) (prim o2)) {σ : L2.St} {H : Hp} {Q : VK} (h : TX k (.chn o1 o2 x y z) σ H Q) : tChain r1 r2 (TX k x) (TX k y) (TX k z) σ H Q := by
  obtain ⟨ρ, Φ, fp, S, T, q⟩ := h
  refine ⟨ρ, Φ, fp, S, T, ?_⟩
  unfold evX at q
  cases hx : evX k.c x ρ with
  | bad => rw [hx] at q; exact q
  | exc n => rw [hx] at q; exact q
  | ok p =>
    obtain ⟨e1, ρ1⟩ := p
    rw [hx] at q
    intro v1 Φ1 H1 fp1 G1 st1 S1 re1 T1
    replace q : PostX k Φ H σ fp Q ((evX k.c y ρ1).bind fun q => match prim o1 [e1.frz, q.1.frz] with
      | some (.d (.bl true)) => (evX k.c z q.2).bind fun z => (R.ofO (prim o2 [q.1.frz, z.1.frz])).bind fun e => .ok (e, z.2)
      | some (.d (.bl false)) => .ok (.d (.bl false), q.2)
      | _ => .bad) := q
    have F1 := S1.frzAll
    have rd1 : k.RD (addF Φ1 G1) H1 v1 e1.frz := re1.frz (fun _ z => .inl z) fun a z => .inr z
    refine ⟨ρ1, _, fp1, F1, T1, ?_⟩
    cases hy : evX k.c y ρ1 with
    | bad => rw [hy] at q; exact q
    | exc n => rw [hy] at q; exact exc_later st1.frzAll q
    | ok p2 =>
      obtain ⟨e2, ρ2⟩ := p2
      rw [hy] at q
      intro v2 Φ2 H2 fp2 G2 st2 S2 re2 T2
      have F2 := S2.frzAll
      have w2 : Stay (addF Φ1 G1) H1 (addF Φ2 G2) H2 := by
        have s1 := Ext.stay (F1.wd.sub fun a z => .inl z) st2.ext
        exact ⟨fun a z => .inl (s1.mono a z), fun b o e f t => s1.frz b o e f t, fun b o e m t => s1.imm b o e m t⟩
      have rd1' := rd1.stay w2
      have rd2 : k.RD (addF Φ2 G2) H2 v2 e2.frz := re2.frz (fun _ z => .inl z) fun a z => .inr z
      replace q : PostX k Φ H σ fp Q (match prim o1 [e1.frz, e2.frz] with
        | some (.d (.bl true)) => (evX k.c z ρ2).bind fun z => (R.ofO (prim o2 [e2.frz, z.1.frz])).bind fun e => .ok (e, z.2)
        | some (.d (.bl false)) => .ok (.d (.bl false), ρ2)
        | _ => .bad) := q
      cases hp : prim o1 [e1.frz, e2.frz] with
      | none => rw [hp] at q; exact q.elim
      | some e3 =>
        rw [hp] at q
        show bin2 r1 [v1, v2] H2 _
        refine h1 (addF Φ2 G2) H2 [v1, v2] [e1.frz, e2.frz] e3 _ (.cons (.of rd1') (.cons (.of rd2) .nil)) hp fun v3 H3 G3 fr re3 => ?_
        obtain ⟨S3, st3⟩ := F2.fresh fr
        have T3 : k.Tb H3 := T2.ext fr.keep
        have stA : Stp Φ H fp (addF Φ2 G2) H3 fp2 G3 := (st1.frzAll.trans st2.frzAll).trans st3
        cases e3 with
        | d x3 =>
          obtain ⟨rd3, hG3⟩ := re3.dI
          subst hG3
          cases x3 with
          | bl b =>
            cases rd3
            refine ⟨_, rfl, ?_⟩
            cases b with
            | false => exact q _ _ _ _ _ stA S3 (.d (.bl _)) T3
            | true =>
              replace q : PostX k Φ H σ fp Q ((evX k.c z ρ2).bind fun z => (R.ofO (prim o2 [e2.frz, z.1.frz])).bind fun e => .ok (e, z.2)) := q
              show TX k z σ H3 _
              refine ⟨ρ2, _, fp2, S3, T3, ?_⟩
              cases hz : evX k.c z ρ2 with
              | bad => rw [hz] at q; exact q
              | exc n => rw [hz] at q; exact exc_later stA q
              | ok p4 =>
                obtain ⟨e4, ρ4⟩ := p4
                rw [hz] at q
                intro v4 Φ4 H4 fp4 G4 st4 S4 re4 T4
                have F4 := S4.frzAll
                have s1 := Ext.stay (S3.wd.sub fun a z => .inl z) st4.ext
                have w4 : Stay (addF Φ2 G2) H3 (addF Φ4 G4) H4 := ⟨fun a z => .inl (s1.mono a z), fun b o e f t => s1.frz b o e f t, fun b o e m t => s1.imm b o e m t⟩
                have rd2' := (rd2.stay fr.stay).stay w4
                have rd4 : k.RD (addF Φ4 G4) H4 v4 e4.frz := re4.frz (fun _ z => .inl z) fun a z => .inr z
                replace q : PostX k Φ H σ fp Q ((R.ofO (prim o2 [e2.frz, e4.frz])).bind fun e => .ok (e, ρ4)) := q
                cases hp2 : prim o2 [e2.frz, e4.frz] with
                | none => rw [hp2] at q; exact q.elim
                | some e5 =>
                  rw [hp2] at q
                  show bin2 r2 [v2, v4] H4 _
                  refine h2 (addF Φ4 G4) H4 [v2, v4] [e2.frz, e4.frz] e5 _ (.cons (.of rd2') (.cons (.of rd4) .nil)) hp2 fun v5 H5 G5 fr5 re5 => ?_
                  obtain ⟨S5, st5⟩ := F4.fresh fr5
                  exact q v5 _ H5 fp4 G5 ((stA.trans st4.frzAll).trans st5) S5 re5 (T4.ext fr5.keep)
          | _ => exact q.elim
        | _ => exact q.elim
theorem px_chn {op op' : CmpOp} {o1 o2 : Prim} {r r' : R2} {a b c : Expr} {x y z : X} {pos : Pos} (ho : OpR k.X (compareOp op) r) (hp : PrimR k (bin2 r) (prim o1)) (ho' : OpR k.X (compareOp op') r') (hp' : PrimR k (bin2 r') (prim o2)) (ha : PX k a x) (hb : PX k b y) (hc : PX k c z)
    (hm : lastMarks [op, op'] [b, c] = false := by with_unfolding_all rfl) : PX k (.Compare a [op, op'] [b, c] pos) (.chn o1 o2 x y z) := pe_of (pe_chain ho ho' ha hb hc hm) fun _ _ _ q => tx_chn hp hp' q
theorem ptx_chn {op op' : CmpOp} {o1 o2 : Prim} {r r' : R2} {a b c : Expr} {x y z : X} {pos : Pos} (ho : OpR k.X (compareOp op) r) (hp : PrimR k (bin2 r) (prim o1)) (ho' : OpR k.X (compareOp op') r') (hp' : PrimR k (bin2 r') (prim o2)) (ha : PX k a x) (hb : PX k b y) (hc : PX k c z)
    (hm : lastMarks [op, op'] [b, c] = false := by with_unfolding_all rfl) : PTX k (.Compare a [op, op'] [b, c] pos) (.chn o1 o2 x y z) := ptx_test (pt_chain ho ho' ha hb hc hm) fun _ _ _ q => tx_chn hp hp' q
end
end EV
end
section
set_option linter.all false
set_option maxRecDepth 100000
/-! EvCall: calls of the law's own defs. -/
namespace EV
open PySem PySem.W L2 PySem.Spec PyProof.Rows
section
variable (K : PySem.W.Frag) (fa : Nat → Addr)
/-- the arguments at a call; what each owns -/
inductive REs (Φ : Frz) (H : Hp) : List V → List E → List (List Addr) → Prop
  | nil : REs Φ H [] [] []
  | cons {v : V} {vs : List V} {e : E} {es : List E} {l : List Addr} {Ls : List (List Addr)} : RE K fa Φ H v e l → REs Φ H vs es Ls → REs Φ H (v :: vs) (e :: es) (l :: Ls)
/-- .. and behind it: what the in-out parameters hold -/
inductive ROs (Φ : Frz) (H : Hp) : List V → List (Option E) → List (List Addr) → Prop
  | nil : ROs Φ H [] [] []
  | s {v : V} {vs : List V} {e : E} {es : List (Option E)} {l : List Addr} {Ls : List (List Addr)} : RE K fa Φ H v e l → ROs Φ H vs es Ls → ROs Φ H (v :: vs) (some e :: es) (l :: Ls)
  | n {v : V} {vs : List V} {es : List (Option E)} {Ls : List (List Addr)} : ROs Φ H vs es Ls → ROs Φ H (v :: vs) (none :: es) ([] :: Ls)
def PostC (ca : Nat → Addr) (T : List (Addr × Str)) (Φ : Frz) (H : Hp) (Ls : List (List Addr)) (vs : List V) (Q : VK) (E' : XK) : R (E × List (Option E)) → Prop
  | .ok (e, os) => ∀ v Φ' H' G' Ls', Ext (fun a => a ∈ Ls.flatten) Φ H Φ' H' → Wd Φ' H' (fun a => a ∈ G' ∨ a ∈ Ls'.flatten) → (G' ++ Ls'.flatten).Nodup → (∀ a, a ∈ G' ∨ a ∈ Ls'.flatten → a ∈ Ls.flatten ∨ H a = none) →
      RE K fa Φ' H' v e G' → ROs K fa Φ' H' vs os Ls' → LamX.Tabs T H' → Q v H'
  | .exc n => ∀ Φ' H', Ext (fun a => a ∈ Ls.flatten) Φ H Φ' H' → Wd Φ' H' (fun _ => False) → LamX.Tabs T H' → E' (.ref (ca n)) none H'
  | .bad => False
/-- the promise of a def, by its evaluation -/
def spD (ca : Nat → Addr) (T : List (Addr × Str)) (call : List E → R (E × List (Option E))) : Sp := fun vs H Q E' => ∃ es Φ Ls, REs K fa Φ H vs es Ls ∧ Ls.flatten.Nodup ∧ Wd Φ H (fun a => a ∈ Ls.flatten) ∧ LamX.Tabs T H ∧ PostC K fa ca T Φ H Ls vs Q E' (call es)
end
/-- a def that may be called -/
def FnAt (k : Kx) (n : Nat) (f : Nat) : Prop := ∃ fd ps, FnOk k.X.prog k.X.w k.X.K k.X.mg k.X.base (L2N.CX k.X.prog k.X.w) n (k.fa f) fd ps (spD k.X.K k.fa k.ca k.T (k.c.c1 f)) ∧ PySem.W.keepIn k.X.K (.ref (k.fa f)) = true ∧ Binds k.X.K fd ps []
def FnAll (k : Kx) (n : Nat) : Prop := ∀ f, FnAt k n f
/-- what holds where a body of ours runs -/
structure KOk (k : Kx) (n : Nat) : Prop where
  calm : k.X.calm = true
  hu : k.X.A.units + 66 < cLine
  hr : Room n k.X.A
  pass : Passes (L2N.CX k.X.prog k.X.w) k.X k.wx
  fns : FnAll k n
/-- what the call of a lambda wants more -/
structure TOk (k : Kx) (n : Nat) : Prop where
  fns2 : FnAll { k with c := { k.c with c1 := k.c.c2 } } (n - 2)
  deep : k.c.deep = true → 2 ≤ n

def As.slots : As → List Nat
  | .nil => []
  | .slt i r => i :: r.slots
  | .x _ r => r.slots
theorem as_slots {c : Calls} : ∀ {as : As} {ρ ρ' : Env} {args : List Arg}, evAs c as ρ = .ok (args, ρ') → EV.slots args = as.slots
  | .nil, ρ, ρ', args, h => by cases h; rfl
  | .slt i r, ρ, ρ', args, e => by
    unfold evAs at e
    cases hl : look ρ i with
    | none => rw [hl] at e; cases e
    | some z =>
      rw [hl] at e
      replace e : ((evAs c r ρ).bind fun q => .ok (.s i :: q.1, q.2)) = R.ok (args, ρ') := e
      cases hr : evAs c r ρ with
      | bad => rw [hr] at e; cases e
      | exc n => rw [hr] at e; cases e
      | ok q =>
        rw [hr] at e
        obtain ⟨a1, a2⟩ := q
        cases e
        show i :: EV.slots a1 = i :: r.slots
        rw [as_slots hr]
  | .x x r, ρ, ρ', args, e => by
    unfold evAs at e
    cases hx : evX c x ρ with
    | bad => rw [hx] at e; cases e
    | exc n => rw [hx] at e; cases e
    | ok p =>
      rw [hx] at e
      replace e : ((evAs c r p.2).bind fun q => .ok (.v p.1 :: q.1, q.2)) = R.ok (args, ρ') := e
      cases hr : evAs c r p.2 with
      | bad => rw [hr] at e; cases e
      | exc n => rw [hr] at e; cases e
      | ok q =>
        rw [hr] at e
        obtain ⟨a1, a2⟩ := q
        cases e
        show EV.slots a1 = r.slots
        exact as_slots hr
/-- what the arguments own -/
inductive LA (fp : Fp) : List Arg → List (List Addr) → List Addr → Prop
  | nil : LA fp [] [] []
  | s {i : Nat} {r : List Arg} {Ls : List (List Addr)} {l : List Addr} : LA fp r Ls l → LA fp (.s i :: r) (fp i :: Ls) l
  | v {e : E} {l0 : List Addr} {r : List Arg} {Ls : List (List Addr)} {l : List Addr} : LA fp r Ls l → LA fp (.v e :: r) (l0 :: Ls) (l ++ l0)
section
variable {K : PySem.W.Frag} {fa : Nat → Addr} {Φ Φ' : Frz} {H H' : Hp} {σ : L2.St} {ρ ρ' : Env} {fp : Fp} {G l : List Addr} {vs : List V} {args : List Arg} {Ls : List (List Addr)}
theorem fillE_ok (s : Sta K fa Φ H σ ρ fp G) (ra : RAs K fa Φ H σ vs args l) : ∀ {es : List E}, fillE ρ args = some es → ∃ Ls, REs K fa Φ H vs es Ls ∧ LA fp args Ls l := by
  induction ra with
  | nil => intro es h; cases h; exact ⟨[], .nil, .nil⟩
  | @s v vs i r G' h1 ra ih =>
    intro es h
    unfold fillE at h
    cases e : look ρ i with
    | none => rw [e] at h; cases h
    | some x =>
      cases f : fillE ρ r with
      | none => rw [e, f] at h; cases h
      | some b =>
        rw [e, f] at h
        cases h
        obtain ⟨Ls, a1, a2⟩ := ih f
        obtain ⟨w, h2, re⟩ := s.env.at_ i x e
        have ew : w = v := by rw [h1] at h2; exact (Option.some.inj (Option.some.inj h2)).symm
        subst ew
        exact ⟨_, .cons re a1, .s a2⟩
  | @v v vs e r l G' re ra ih =>
    intro es h
    unfold fillE at h
    cases f : fillE ρ r with
    | none => rw [f] at h; cases h
    | some b =>
      rw [f] at h
      cases h
      obtain ⟨Ls, a1, a2⟩ := ih f
      exact ⟨_, .cons re a1, .v a2⟩
theorem LA.mem (h : LA fp args Ls l) (a : Addr) : a ∈ Ls.flatten ↔ a ∈ l ∨ ∃ i ∈ slots args, a ∈ fp i := by
  induction h with
  | nil => simp [EV.slots]
  | @s i r Ls l h ih =>
    rw [List.flatten_cons, List.mem_append, ih]
    rw [show EV.slots (.s i :: r) = i :: EV.slots r from rfl]
    simp only [List.mem_cons, exists_eq_or_imp]
    constructor
    · rintro (z | z | z)
      · exact .inr (.inl z)
      · exact .inl z
      · exact .inr (.inr z)
    · rintro (z | z | z)
      · exact .inr (.inl z)
      · exact .inl z
      · exact .inr (.inr z)
  | v h ih =>
    rw [List.flatten_cons, List.mem_append, ih, List.mem_append]
    constructor
    · rintro (z | z | z)
      · exact .inl (.inr z)
      · exact .inl (.inl z)
      · exact .inr z
    · rintro ((z | z) | z)
      · exact .inr (.inl z)
      · exact .inl z
      · exact .inr (.inr z)
theorem LA.nd (nd : ∀ i, (fp i).Nodup) (inj : ∀ i j a, a ∈ fp i → a ∈ fp j → i = j) (h : LA fp args Ls l) : l.Nodup → (∀ a ∈ l, ¬ own fp a) → (slots args).Nodup → Ls.flatten.Nodup := by
  induction h with
  | nil => intro _ _ _; exact List.nodup_nil
  | @s i r Ls l h ih =>
    intro h1 h2 h3
    unfold EV.slots at h3
    obtain ⟨h3, h4⟩ := List.nodup_cons.mp h3
    rw [List.flatten_cons]
    refine List.nodup_append.mpr ⟨nd i, ih h1 h2 h4, fun a ha b hb e => ?_⟩
    subst e
    rcases (h.mem a).mp hb with z | ⟨j, hj, z⟩
    · exact h2 a z ⟨i, ha⟩
    · have := inj i j a ha z
      subst this
      exact h3 hj
  | @v e l0 r Ls l h ih =>
    intro h1 h2 h3
    obtain ⟨h4, h5, h6⟩ := List.nodup_append.mp h1
    rw [List.flatten_cons]
    refine List.nodup_append.mpr ⟨h5, ih h4 (fun a z => h2 a (List.mem_append_left _ z)) h3, fun a ha b hb e => ?_⟩
    subst e
    rcases (h.mem a).mp hb with z | ⟨j, hj, z⟩
    · exact h6 a z a ha rfl
    · exact h2 a (List.mem_append_right _ ha) ⟨j, z⟩
theorem LA.own (h : LA fp args Ls l) {a : Addr} (z : a ∈ Ls.flatten) : EV.own fp a ∨ a ∈ l := by
  rcases (h.mem a).mp z with z | ⟨i, _, z⟩
  · exact .inr z
  · exact .inl ⟨i, z⟩

/-- slots, some of them out of use -/
structure REnvX (K : PySem.W.Frag) (fa : Nat → Addr) (skip : Nat → Prop) (Φ : Frz) (H : Hp) (σ : L2.St) (ρ : Env) (fp : Fp) : Prop where
  at_ : ∀ i e, ¬ skip i → look ρ i = some e → ∃ v, σ[i]? = some (some v) ∧ RE K fa Φ H v e (fp i)
  no : ∀ i, ¬ skip i → look ρ i = none → fp i = []
  sk : ∀ i, skip i → fp i = []
  nd : ∀ i, (fp i).Nodup
  inj : ∀ i j a, a ∈ fp i → a ∈ fp j → i = j
  len : σ.length = ρ.length
theorem REnvX.all {skip : Nat → Prop} (r : REnvX K fa skip Φ H σ ρ fp) (h : ∀ i, ¬ skip i) : REnv K fa Φ H σ ρ fp :=
  ⟨fun i e => r.at_ i e (h i), fun i => r.no i (h i), r.nd, r.inj, r.len⟩
theorem REnvX.putS {skip : Nat → Prop} (r : REnvX K fa skip Φ H σ ρ fp) {i : Nat} {v : V} {e : E} {l : List Addr} (hs : skip i) (hv : σ[i]? = some (some v)) (re : RE K fa Φ H v e l) (nd : l.Nodup) (ap : ∀ a ∈ l, ¬ own fp a) :
    REnvX K fa (fun j => skip j ∧ j ≠ i) Φ H σ (put ρ i (some e)) (setF fp i l) where
  at_ := fun j x hj h => by
    have hi : i < ρ.length := by rw [← r.len]; exact (List.getElem?_eq_some_iff.mp hv).1
    rw [look_put] at h
    by_cases e' : j = i
    · subst e'
      rw [if_pos ⟨rfl, hi⟩] at h
      cases h
      exact ⟨v, hv, by rw [setF_same]; exact re⟩
    · rw [if_neg (fun z => e' z.1)] at h
      obtain ⟨w, h1, h2⟩ := r.at_ j x (fun z => hj ⟨z, e'⟩) h
      exact ⟨w, h1, by rw [setF_ne e']; exact h2⟩
  no := fun j hj h => by
    have hi : i < ρ.length := by rw [← r.len]; exact (List.getElem?_eq_some_iff.mp hv).1
    rw [look_put] at h
    by_cases e' : j = i
    · subst e'; rw [if_pos ⟨rfl, hi⟩] at h; cases h
    · rw [if_neg (fun z => e' z.1)] at h
      rw [setF_ne e']; exact r.no j (fun z => hj ⟨z, e'⟩) h
  sk := fun j ⟨hj, e'⟩ => by rw [setF_ne e']; exact r.sk j hj
  nd := fun j => by
    by_cases e' : j = i
    · subst e'; rw [setF_same]; exact nd
    · rw [setF_ne e']; exact r.nd j
  inj := fun j k a h1 h2 => by
    by_cases e1 : j = i
    · subst e1
      by_cases e2 : k = j
      · exact e2.symm
      · rw [setF_same] at h1
        rw [setF_ne e2] at h2
        exact absurd ⟨k, h2⟩ (ap a h1)
    · rw [setF_ne e1] at h1
      by_cases e2 : k = i
      · subst e2
        rw [setF_same] at h2
        exact absurd ⟨j, h1⟩ (ap a h2)
      · rw [setF_ne e2] at h2
        exact r.inj j k a h1 h2
  len := by rw [put_length]; exact r.len
theorem back_ok {skip : Nat → Prop} {fpB : Fp} {σ : L2.St} {ρ : Env} (rx : REnvX K fa skip Φ' H' σ ρ fpB) (ra : RAs K fa Φ H σ vs args l) :
    ∀ {os : List (Option E)} {Ls' : List (List Addr)} {ρ' : Env}, (∀ i ∈ slots args, skip i) → (slots args).Nodup → ROs K fa Φ' H' vs os Ls' → back ρ args os = some ρ' → Ls'.flatten.Nodup → (∀ a ∈ Ls'.flatten, ¬ own fpB a) →
    ∃ fp', REnvX K fa (fun i => skip i ∧ i ∉ slots args) Φ' H' σ ρ' fp' ∧ ∀ a, own fp' a → own fpB a ∨ a ∈ Ls'.flatten := by
  induction ra with
  | nil =>
    intro os Ls' ρ' hs nd ro hb _ _
    cases ro
    cases hb
    exact ⟨fpB, ⟨fun i e h => rx.at_ i e fun z => h ⟨z, fun q => nomatch q⟩, fun i h => rx.no i fun z => h ⟨z, fun q => nomatch q⟩, fun i h => rx.sk i h.1, rx.nd, rx.inj, rx.len⟩, fun a z => .inl z⟩
  | @s v vs i r G' h1 ra ih =>
    intro os Ls' ρ' hs nd ro hb hn hd
    unfold EV.slots at nd
    obtain ⟨n1, n2⟩ := List.nodup_cons.mp nd
    cases ro with
    | @s _ _ e es l0 Ls0 re ro =>
      rw [List.flatten_cons] at hn hd
      obtain ⟨m1, m2, m3⟩ := List.nodup_append.mp hn
      unfold back at hb
      cases hb' : back ρ r es with
      | none => rw [hb'] at hb; cases hb
      | some ρ2 =>
        rw [hb'] at hb
        cases hb
        obtain ⟨fp2, x2, o2⟩ := ih (fun j hj => hs j (List.mem_cons_of_mem _ hj)) n2 ro hb' m2 (fun a z => hd a (List.mem_append_right _ z))
        have x3 := x2.putS (i := i) ⟨hs i List.mem_cons_self, n1⟩ h1 re m1 fun a ha z => (o2 a z).elim (hd a (List.mem_append_left _ ha)) fun q => m3 a ha a q rfl
        refine ⟨_, ⟨fun j e hj => x3.at_ j e fun z => hj ⟨z.1.1, fun q => ?_⟩, fun j hj => x3.no j fun z => hj ⟨z.1.1, fun q => ?_⟩, fun j hj => x3.sk j ⟨⟨hj.1, fun q => hj.2 (List.mem_cons_of_mem _ q)⟩, fun q => hj.2 (q ▸ List.mem_cons_self)⟩, x3.nd, x3.inj, x3.len⟩, fun a z => ?_⟩
        · exact (List.mem_cons.mp q).elim z.2 z.1.2
        · exact (List.mem_cons.mp q).elim z.2 z.1.2
        · rw [List.flatten_cons]
          rcases own_set z with z | z
          · exact .inr (List.mem_append_left _ z)
          · exact (o2 a z).imp id (List.mem_append_right _)
    | n ro => cases hb
  | @v v vs e r l0 G' re ra ih =>
    intro os Ls' ρ' hs nd ro hb hn hd
    cases ro with
    | s re ro =>
      rw [List.flatten_cons] at hn hd
      obtain ⟨fp2, x2, o2⟩ := ih hs nd ro hb (List.nodup_append.mp hn).2.1 (fun a z => hd a (List.mem_append_right _ z))
      exact ⟨fp2, x2, fun a z => by rw [List.flatten_cons]; exact (o2 a z).imp id (List.mem_append_right _)⟩
    | n ro =>
      obtain ⟨fp2, x2, o2⟩ := ih hs nd ro hb (by simpa using hn) (fun a z => hd a (by simpa using z))
      exact ⟨fp2, x2, fun a z => (o2 a z).imp id fun z => by simpa using z⟩
end

section
variable {k : Kx} {n : Nat}
/-- a call, once the arguments are there -/
theorem call_post {Φ Φ1 : Frz} {H H1 : Hp} {σ : L2.St} {fp fp1 : Fp} {ρ1 : Env} {G1 : List Addr} {vs : List V} {args : List Arg} {es : List E} {f : Nat} {Q : VK} (st : Stp Φ H fp Φ1 H1 fp1 G1) (S1 : k.Sta Φ1 H1 σ ρ1 fp1 G1) (T1 : k.Tb H1)
    (ra : RAs k.X.K k.fa Φ1 H1 σ vs args G1) (hs : (slots args).Nodup) (hf : fillE ρ1 args = some es)
    (q : PostX k Φ H σ fp Q ((k.c.c1 f es).bind fun q => (R.ofO (back ρ1 args q.2)).bind fun ρ1 => .ok (q.1, ρ1))) : spD k.X.K k.fa k.ca k.T (k.c.c1 f) vs H1 Q k.wx := by
  obtain ⟨Ls, r1, la⟩ := fillE_ok S1 ra hf
  have hin : ∀ a, a ∈ Ls.flatten → own fp1 a ∨ a ∈ G1 := fun a z => la.own z
  have wL : Wd Φ1 H1 (fun a => a ∈ Ls.flatten) := S1.wd.sub hin
  refine ⟨es, Φ1, Ls, r1, la.nd S1.env.nd S1.env.inj S1.gnd S1.gn hs, wL, T1, ?_⟩
  cases hc : k.c.c1 f es with
  | bad => rw [hc] at q; exact q
  | exc m =>
    rw [hc] at q
    exact fun Φ' H' x w t => q Φ' H' (st.ext.trans x fun a z => st.sub a (hin a z)) w t
  | ok p =>
    obtain ⟨e, os⟩ := p
    rw [hc] at q
    replace q : PostX k Φ H σ fp Q ((R.ofO (back ρ1 args os)).bind fun ρ1 => .ok (e, ρ1)) := q
    cases hb : back ρ1 args os with
    | none => rw [hb] at q; exact q.elim
    | some ρ' =>
      rw [hb] at q
      intro v Φ' H' G' Ls' x w nd sub re ro t
      obtain ⟨n1, n2, n3⟩ := List.nodup_append.mp nd
      have there : ∀ a, own fp1 a → H1 a ≠ none := fun a z e => by have := S1.wd.mu a (.inl z); rw [e] at this; exact this
      let fpB : Fp := fun j => if j ∈ slots args then [] else fp1 j
      have fB : ∀ j a, a ∈ fpB j → a ∈ fp1 j ∧ j ∉ slots args := fun j a z => by
        by_cases e : j ∈ slots args
        · rw [show fpB j = [] from if_pos e] at z; cases z
        · rw [show fpB j = fp1 j from if_neg e] at z; exact ⟨z, e⟩
      have notL : ∀ j a, a ∈ fpB j → a ∉ Ls.flatten := fun j a z q => by
        obtain ⟨z1, z2⟩ := fB j a z
        rcases (la.mem a).mp q with q | ⟨i, hi, q⟩
        · exact S1.gn a q ⟨j, z1⟩
        · exact z2 (S1.env.inj j i a z1 q ▸ hi)
      have rx : REnvX k.X.K k.fa (fun j => j ∈ slots args) Φ' H' σ ρ1 fpB := by
        refine ⟨fun j e0 hj hl => ?_, fun j hj hl => ?_, fun j hj => if_pos hj, fun j => ?_, fun i j a h1 h2 => S1.env.inj i j a (fB i a h1).1 (fB j a h2).1, S1.env.len⟩
        · obtain ⟨u, h1, h2⟩ := S1.env.at_ j e0 hl
          refine ⟨u, h1, ?_⟩
          rw [show fpB j = fp1 j from if_neg hj]
          exact h2.ext wL x fun a z => notL j a (by rw [show fpB j = fp1 j from if_neg hj]; exact z)
        · rw [show fpB j = fp1 j from if_neg hj]; exact S1.env.no j hl
        · by_cases e : j ∈ slots args
          · rw [show fpB j = [] from if_pos e]; exact List.nodup_nil
          · rw [show fpB j = fp1 j from if_neg e]; exact S1.env.nd j
      have clash : ∀ a, own fpB a → ¬ (a ∈ G' ∨ a ∈ Ls'.flatten) := fun a ⟨j, z⟩ q => by
        rcases sub a q with q | q
        · exact notL j a z q
        · exact there a ⟨j, (fB j a z).1⟩ q
      obtain ⟨fp', x', o'⟩ := back_ok rx ra (fun i z => z) hs ro hb n2 fun a z q => clash a q (.inr z)
      have env' : REnv k.X.K k.fa Φ' H' σ ρ' fp' := x'.all fun i z => z.2 z.1
      have S' : k.Sta Φ' H' σ ρ' fp' G' := by
        refine ⟨env', ⟨fun a z => ?_, w.tr, fun a z => ?_⟩, n1, fun a z q => ?_⟩
        · rcases z with z | z
          · rcases o' a z with z | z
            · intro q
              obtain ⟨j, z⟩ := z
              have z1 := (fB j a z).1
              rcases x.back a q with q | q | q
              · exact S1.wd.nf a (.inl ⟨j, z1⟩) q
              · exact notL j a z q
              · exact there a ⟨j, z1⟩ q
            · exact w.nf a (.inr z)
          · exact w.nf a (.inl z)
        · rcases z with z | z
          · rcases o' a z with z | z
            · obtain ⟨j, z⟩ := z
              have z1 := (fB j a z).1
              have m := S1.wd.mu a (.inl ⟨j, z1⟩)
              cases e : H1 a with
              | none => rw [e] at m; exact m.elim
              | some o =>
                rw [e] at m
                rw [x.keep a o e (notL j a z) fun ps h => by rw [h] at m; exact m]
                exact m
            · exact w.mu a (.inr z)
          · exact w.mu a (.inl z)
        · rcases o' a q with q | q
          · exact clash a q (.inl z)
          · exact n3 a z a q rfl
      refine q v Φ' H' fp' G' ⟨st.ext.trans x fun a z => st.sub a (hin a z), fun a z => ?_⟩ S' re t
      have key : a ∈ G' ∨ a ∈ Ls'.flatten → own fp a ∨ H a = none := fun z => by
        rcases sub a z with z | z
        · exact st.sub a (hin a z)
        · exact .inr (st.ext.dom a z)
      rcases z with z | z
      · rcases o' a z with ⟨j, z⟩ | z
        · exact st.sub a (.inl ⟨j, (fB j a z).1⟩)
        · exact key (.inr z)
      · exact key (.inl z)
theorem px_call {x : Str} {f : Nat} {e : Expr} {es : List Expr} {as : As} {p pos : Pos} (ok : KOk k n) (hg : Gl k.X x) (hm : k.X.mg x = some (.ref (k.fa f))) (h : PAs k (e :: es) as) (hs : as.slots.Nodup := by decide) (hdb : (x == ("__debug__" : Str)) = false := by decide)
    (he : starEach (e :: es) k.X.env = (false, eval e k.X.env) :: starEach es k.X.env := by rfl) (hpl : (backTo pos (starEach es k.X.env)).any (·.1) = false := by rfl) : PX k (.Call (.Name x p) (e :: es) [] pos) (.call f as) := by
  have main : ∀ σ H Q, TX k (.call f as) σ H Q → tAs k as σ H fun vs H1 => spD k.X.K k.fa k.ca k.T (k.c.c1 f) vs H1 Q k.wx := fun σ H Q ⟨ρ, Φ, fp, S, T, q⟩ => as_of as S T (by
    unfold evX at q
    cases ha : evAs k.c as ρ with
    | bad => rw [ha] at q; exact q
    | exc n => rw [ha] at q; exact q
    | ok x =>
      obtain ⟨args, ρ1⟩ := x
      rw [ha] at q
      intro vs Φ1 H1 fp1 G1 st S1 ra T1
      replace q : PostX k Φ H σ fp Q ((R.ofO (fillE ρ1 args)).bind fun es => (k.c.c1 f es).bind fun q => (R.ofO (back ρ1 args q.2)).bind fun ρ1 => .ok (q.1, ρ1)) := q
      cases hf : fillE ρ1 args with
      | none => rw [hf] at q; exact q.elim
      | some es =>
        rw [hf] at q
        exact call_post st S1 T1 ra (by rw [as_slots ha]; exact hs) hf q)
  obtain ⟨fd, ps, F, hk, hb⟩ := ok.fns f
  refine pe_of (pe_call F ok.hr hg hm hk hb .nil ok.pass h.pa hdb he hpl) fun σ H Q q => ?_
  have q := main σ H Q q
  show tAs k as σ H fun vs H1 => spD k.X.K k.fa k.ca k.T (k.c.c1 f) (vs ++ []) H1 Q k.wx
  have e0 : (fun (vs : List V) (H1 : Hp) => spD k.X.K k.fa k.ca k.T (k.c.c1 f) (vs ++ []) H1 Q k.wx) = fun vs H1 => spD k.X.K k.fa k.ca k.T (k.c.c1 f) vs H1 Q k.wx := by
    funext vs H1
    rw [List.append_nil]
  rw [e0]
  exact q
/-- a call of a slot that holds a def -/
theorem px_callv {x : Str} {i : Nat} {e : Expr} {es : List Expr} {as : As} {p pos : Pos} (ok : KOk k n) (hN : k.X.N[i]? = some x) (hv : Vis k.X.env.scope x) (h : PAs k (e :: es) as) (hs : as.slots.Nodup := by decide) (hdb : (x == ("__debug__" : Str)) = false := by decide) (hcd : (x == ("__classdict__" : Str)) = false := by decide)
    (he : starEach (e :: es) k.X.env = (false, eval e k.X.env) :: starEach es k.X.env := by rfl) (hpl : (backTo pos (starEach es k.X.env)).any (·.1) = false := by rfl) : PX k (.Call (.Name x p) (e :: es) [] pos) (.callv i as) := by
  refine ⟨fun pins s σ H Q I ⟨ρ, Φ, fp, S, T, q⟩ => ?_⟩
  unfold evX at q
  split at q
  · rename_i f hl
    obtain ⟨v, h1, re⟩ := S.env.at_ i _ hl
    obtain ⟨rd, _⟩ := re.dI
    cases rd
    obtain ⟨fd, ps, F, hk, hb⟩ := ok.fns f
    refine (pe_callL (i := i) (f := k.fa f) (sp := spD k.X.K k.fa k.ca k.T (k.c.c1 f)) (dvs := []) (E := k.wx) F ok.hr hN hv hk hb .nil ok.pass h.pa hdb hcd he hpl).run pins s σ H Q I ⟨h1, ?_⟩
    have e0 : (fun (vs : List V) (H1 : Hp) => spD k.X.K k.fa k.ca k.T (k.c.c1 f) (vs ++ []) H1 Q k.wx) = fun vs H1 => spD k.X.K k.fa k.ca k.T (k.c.c1 f) vs H1 Q k.wx := by
      funext vs H1
      rw [List.append_nil]
    show tAs k as σ H (fun vs H1 => spD k.X.K k.fa k.ca k.T (k.c.c1 f) (vs ++ []) H1 Q k.wx)
    rw [e0]
    exact as_of as S T (by
      cases ha : evAs k.c as ρ with
      | bad => rw [ha] at q; exact q
      | exc n => rw [ha] at q; exact q
      | ok x =>
        obtain ⟨args, ρ1⟩ := x
        rw [ha] at q
        intro vs Φ1 H1 fp1 G1 st S1 ra T1
        replace q : PostX k Φ H σ fp Q ((R.ofO (fillE ρ1 args)).bind fun es => (k.c.c1 f es).bind fun q => (R.ofO (back ρ1 args q.2)).bind fun ρ1 => .ok (q.1, ρ1)) := q
        cases hf : fillE ρ1 args with
        | none => rw [hf] at q; exact q.elim
        | some es =>
          rw [hf] at q
          exact call_post st S1 T1 ra (by rw [as_slots ha]; exact hs) hf q)
  · exact q.elim
end
end EV
end
section
set_option linter.all false
set_option maxRecDepth 100000
/-! EvIter: what is walked: lists, tuples, ranges, enumerate, zip. -/
namespace PySem
open Sem (wp)
open AutoSeq1 (wpAny_loadPart')
theorem ev_enum_new (l : Addr) (items : Array Value) (n : Nat) (dct : Option Addr) (sl : Array (Option Value)) :
    Meets (Builtin.«enumerate.__new__» ⟨[.type "enumerate", .ref l], []⟩) (fun _ R s => s.heap.get? l = some { cls := .type "tuple", dict := dct, data := .seq items n, slots := sl } ∧
      R (.ok (.ret (.ref (s.heap.push { cls := .type "tuple_iterator", data := .fields #[.ref l, .int 0 0] }).objs.size)))
        { s with heap := (s.heap.push { cls := .type "tuple_iterator", data := .fields #[.ref l, .int 0 0] }).push { cls := .type "enumerate", data := .fields #[.none, .bool false, .ref s.heap.objs.size, rawInt 0, .none, .none] } }) :=
  .of_wp fun prog w A R s h => by
    obtain ⟨hp, g, d, tk, os⟩ := s; obtain ⟨hl, h⟩ := h
    have hsub := sub_enumerate
    have hL : Heap.IsTuple (Shared.heap ⟨hp, g, d, tk, os⟩) l items := ⟨_, hl, rfl, n, rfl⟩
    wp_walk using wpAny_loadPart' hl
    refine wpAny_stack_any fun st => wpAny_pure ?_
    split
    · rename_i c _ _ _ _ _
      cases (c == Value.type "enumerate")
      · wp_walk using wpAny_loadPart' hl, wpAny_pyIter_tuple hL
        exact ⟨_, rfl, h⟩
      · wp_walk using wpAny_loadPart' hl, wpAny_pyIter_tuple hL
        exact ⟨_, rfl, h⟩
    · wp_walk using wpAny_loadPart' hl, wpAny_pyIter_tuple hL
      exact ⟨_, rfl, h⟩
section
variable {prog : Program} {w : World} {A : Around} {E : Value → Shared → Prop} {s : Shared}
theorem ev_call_enum {l : Addr} {items : Array Value} {Q : Value → Shared → Prop} (hL : s.heap.IsTuple l items)
    (h : ∀ h', IsEnum h' (s.heap.objs.size + 1) s.heap.objs.size 0 .none → h'.IsTupleIter s.heap.objs.size l 0 → h'.objs.size = s.heap.objs.size + 2 →
      (∀ b o, s.heap.get? b = some o → h'.get? b = some o) → Q (.ref (s.heap.objs.size + 1)) { s with heap := h' }) :
    wpAny (model prog w) A (call (.type "enumerate") [.ref l]) Q E s := by
  obtain ⟨⟨c, dct, dt, sl⟩, hl, hc, n, hd⟩ := hL
  replace hc : c = .type "tuple" := hc
  replace hd : dt = .seq items n := hd
  subst hc hd
  refine callType_new F.called_enumerate (by decide) (F.typeCall_enumerate_1 _) (F.newCall_enumerate_1 _) (fun obj => F.args_object_init_2 obj _) F.entry_enumerate_new
    (ev_enum_new l items n dct sl) ⟨hl, ?_⟩
  have hz : (s.heap.push { cls := .type "tuple_iterator", data := .fields #[.ref l, .int 0 0] }).objs.size = s.heap.objs.size + 1 := Heap.size_push ..
  show _ ∧ _
  rw [hz]
  have he : IsEnum ((s.heap.push { cls := .type "tuple_iterator", data := .fields #[.ref l, .int 0 0] }).push
      { cls := .type "enumerate", data := .fields #[.none, .bool false, .ref s.heap.objs.size, rawInt 0, .none, .none] }) (s.heap.objs.size + 1) s.heap.objs.size 0 .none := by
    have := Heap.get?_push_size (s.heap.push { cls := .type "tuple_iterator", data := .fields #[.ref l, .int 0 0] })
      (o := { cls := .type "enumerate", data := .fields #[.none, .bool false, .ref s.heap.objs.size, rawInt 0, .none, .none] }) rfl
    rw [hz] at this; exact this
  refine ⟨⟨_, he, rfl⟩, h _ he ⟨_, Heap.get?_push_of_some _ (Heap.get?_push_size _ rfl), rfl, rfl⟩ (by rw [Heap.size_push, hz]) fun b o x => Heap.get?_push_of_some _ (Heap.get?_push_of_some _ x)⟩
end
end PySem
namespace EV
open PySem PySem.W L2 PySem.Spec PyProof.Rows
/-- enumerate(tuple) -/
def IteT (K : PySem.W.Frag) (a : Addr) : It :=
  ⟨fun i H => ∃ (xs : List V) (x : V), SqT K H a xs ∧ xs[i]? = some x, fun i H v H' => ∃ T x, v = .ref T ∧ H T = none ∧ H' = upd H T (.tup [.int (i : Nat), x]) ∧ ∀ xs, SqT K H a xs → xs[i]? = some x, fun i H => ∃ xs : List V, SqT K H a xs ∧ xs.length ≤ i⟩
theorem turn_enumT {P : Program} {w : World} {K : PySem.W.Frag} {elts : List Expr} {kk : Nat} {tpos : Pos} (a e it : Addr) :
    Turn P w K (.Tuple elts kk tpos) (IteT K a) [e, it] e (fun i h => (∃ old, IsEnum h e it ((i : Nat) : Int) old) ∧ h.IsTupleIter it a i ∧ e ≠ it ∧ a ≠ it ∧ e ≠ a) where
  mem := by simp
  obj := fun i h st b hb => by
    obtain ⟨⟨old, he⟩, ⟨o, ho, hc, hd⟩, _⟩ := st
    have e' : b = e ∨ b = it := by simpa using hb
    rcases e' with z | z
    · rw [z]; exact ⟨_, he, fun v q => nomatch q⟩
    · rw [z]; exact ⟨o, ho, fun v q => by rw [hd] at q; cases q⟩
  keep := fun i h h' st k => let ⟨⟨old, he⟩, hi, hne⟩ := st; ⟨⟨old, k e (by simp) _ he⟩, hi.at fun o q => k it (by simp) o q, hne⟩
  item := by
    intro X hP hw hK hc i pins s σ H E I hf st hg
    subst hP hw hK
    obtain ⟨⟨old, he⟩, hit, hne, hai, hea⟩ := st
    obtain ⟨xs, x, hq, hx⟩ := hg
    obtain ⟨its, rv, p, hz⟩ := I.tuple hq
    obtain ⟨u, hu, ru⟩ := rv.get hx
    have hel : e < s.heap.objs.size := Heap.lt_size he
    have hil : it < s.heap.objs.size := by obtain ⟨_, q, _⟩ := hit; exact Heap.lt_size q
    have hlt : i < its.toArray.size := by
      have := (List.getElem?_eq_some_iff.mp hu).1
      simpa using this
    have D := Draws.tuple (prog := X.prog) (w := X.w) (A := X.A.in1) (I.ok.hd hc) it a hai its.toArray
    refine wpAny_pyNext_enum_itemD (A := X.A) D he ⟨hit, p⟩ hlt hne (by simp [hne, hea]) fun u' h' tk hu' ho hst' hT hsz hk => ?_
    have eu : u' = u := by
      have : its.toArray[i]? = some u := by simpa using hu
      rw [this] at hu'
      exact (Option.some.inj hu').symm
    subst eu
    refine ⟨_, rfl, wpAny_letOwnedTupleGo_enum (s := { s with heap := h', toks := tk + 1 }) ho fun h'' he' sb => ?_⟩
    have hT2 : h''.get? s.heap.objs.size = some { cls := .type "tuple", data := .seq #[.int i tk, u'] } := (sb.2 _ (Nat.ne_of_gt hel)).trans hT
    have new : ObjOk X.prog X.w (upd H s.heap.objs.size (.tup [.int (i : Nat), x])) h'' s.heap.objs.size (.tup [.int (i : Nat), x]) :=
      ⟨by show 2 ≤ sizeLine; decide, [.int i tk, u'], .cons ⟨_, rfl⟩ (.cons ru .nil), ⟨_, hT2, rfl, _, rfl⟩⟩
    have I1 : Inv X pins σ (upd H s.heap.objs.size (.tup [.int (i : Nat), x])) { s with heap := h'', toks := tk + 1 } :=
      I.turnedNew (ch := [e, it]) (fun b ob hb q => (sb.2 b (fun z => hb (by simp [z]))).trans (hk b ob (fun z => hb (by simp [z])) (fun z => hb (by simp [z])) q)) hf (Nat.le_refl _) new
    refine ⟨.ref s.heap.objs.size, _, I1, rfl, ⟨_, x, rfl, I.hok.fresh (Nat.le_refl _), rfl, fun ys hy => by rw [I.tuple_inj hy hq]; exact hx⟩, ⟨⟨u', ?_⟩, hst'.1.at fun o q => (sb.2 it (Ne.symm hne)).trans q, hne, hai, hea⟩, fun b hb => ?_⟩
    · have e1 : ((i + 1 : Nat) : Int) = (i : Int) + 1 := by omega
      rw [e1]; exact he'
    · have hb' : b < s.heap.objs.size := by
        have e' : b = e ∨ b = it := by simpa using hb
        rcases e' with z | z
        · rw [z]; exact hel
        · rw [z]; exact hil
      rw [upd_ne (Nat.ne_of_lt hb')]
      exact (hf b hb).1
  done := by
    intro X hP hw hK hc i pins s σ H E I hf st hg
    subst hP hw hK
    obtain ⟨⟨old, he⟩, hit, hne, hai, hea⟩ := st
    obtain ⟨xs, hq, hx⟩ := hg
    obtain ⟨its, rv, p, hz⟩ := I.tuple hq
    obtain ⟨f0, f1, f2, f3, f4, f5⟩ := hf it (by simp)
    have hl := rv.length
    have hT : s.TypeIs (.ref e) "enumerate" := ⟨_, he, rfl⟩
    have hh : X.A.handled = none := I.ok.hd hc
    unfold pyNext
    refine wpAny_bind (wpAny_attempt (wpAny_callSpecial?_slot (name := Str.ofString "__next__") hT F.slot_enumerate_next
      (wpAny_call_entry F.slot_enumerate_next hT F.entry_enumerate_next ?_ (F.args_enumerate_next_1 _))))
    show wpAny _ _ (field (.ref e) 2 >>= _) _ _ _
    refine wpAny_bind (wpAny_field he rfl (x := .ref it) rfl ?_)
    refine wpAny_bind (wpAny_nextOf_tuple_end hh hit p (by simp; omega) fun h' x he' hx' => ?_)
    obtain ⟨o, ho, hc⟩ := hx'
    refine wpAny_bind (wpAny_isInstance (T := "StopIteration") (b := true) ⟨o, ho, hc⟩ isSubtype_stop ?_)
    exact wpAny_pure ⟨rfl, I.turned (t' := s.toks) (fun b o hb q => he' b o hb q) f0 f1 f3 f4 f5⟩
  self := fun A i s Q E st h => let ⟨⟨_, he⟩, _⟩ := st; wpAny_pyIter_enum he h
def iEnumA (K : PySem.W.Frag) (ta : TA) : TI := fun σ H R => ta σ H fun vs H1 => ∃ a xs, vs = [.ref a] ∧ ((SqL K H1 a xs ∧ R (Ite K a) H1) ∨ (SqT K H1 a xs ∧ R (IteT K a) H1))
theorem pi_enumA {X : Cx} {e : Expr} {ta : TA} {p pos tpos : Pos} {elts : List Expr} {kk : Nat} (hg : Gl X "enumerate") (hm : X.mg "enumerate" = none) (ha : PA X [e] ta) (hs : starEach [e] X.env = [(false, eval e X.env)] := by rfl) :
    PI X (.Tuple elts kk tpos) (.Call (.Name "enumerate" p) [e] [] pos) (iEnumA X.K ta) := by
  refine ⟨fun pins s σ H R I h => ?_⟩
  refine Call_ (ld_blt I hg hm boot_enumerate (PyProof.Rows.callWith_type1 (thn (ha.run pos pins s σ H _ I h) fun us s1 ⟨vs, H1, I1, r1, q1⟩ => ?_) hs rfl))
  obtain ⟨a, xs, ex, q⟩ := q1
  subst ex
  cases r1 with
  | cons r rr =>
    cases rr
    cases r
    have fin : ∀ b ∈ [s1.heap.objs.size + 1, s1.heap.objs.size], FpOk X pins H1 b := fun b hb => by
      have e' : b = s1.heap.objs.size + 1 ∨ b = s1.heap.objs.size := by simpa using hb
      have hle : s1.heap.objs.size ≤ b := by
        rcases e' with z | z
        · rw [z]; exact Nat.le_add_right _ _
        · rw [z]; exact Nat.le_refl _
      exact I1.fpOk hle (I1.hok.fresh hle)
    rcases q with ⟨hq, q⟩ | ⟨hq, q⟩
    · obtain ⟨its, rv, p', hz⟩ := I1.list hq
      refine call_enumerate_list p'.isList fun h' he hit hsz hk => wpAny_pyIter_enum he ?_
      have I2 : Inv X pins σ H1 { s1 with heap := h' } := I1.kept (t' := s1.toks) hk
      exact ⟨s1.heap.objs.size + 1, [s1.heap.objs.size + 1, s1.heap.objs.size], _, _, H1, rfl, I2, turn_enum a (s1.heap.objs.size + 1) s1.heap.objs.size, ⟨⟨.none, he⟩, hit, Nat.succ_ne_self _⟩, fin, q⟩
    · obtain ⟨its, rv, p', hz⟩ := I1.tuple hq
      have la : a < s1.heap.objs.size := by obtain ⟨_, ho, _⟩ := id p'; exact Heap.lt_size ho
      refine ev_call_enum p' fun h' he hit hsz hk => wpAny_pyIter_enum he ?_
      have I2 : Inv X pins σ H1 { s1 with heap := h' } := I1.kept (t' := s1.toks) hk
      exact ⟨s1.heap.objs.size + 1, [s1.heap.objs.size + 1, s1.heap.objs.size], _, _, H1, rfl, I2, turn_enumT a (s1.heap.objs.size + 1) s1.heap.objs.size, ⟨⟨.none, he⟩, hit, Nat.succ_ne_self _, Nat.ne_of_lt la, Nat.ne_of_gt (Nat.lt_succ_of_lt la)⟩, fin, q⟩
def iSeqA (K : PySem.W.Frag) (te : TE) : TI := fun σ H R => te σ H fun v H1 => ∃ a xs, v = .ref a ∧ ((SqL K H1 a xs ∧ R (Itl K a) H1) ∨ (SqT K H1 a xs ∧ R (Itt K a) H1))
theorem pi_seqA {X : Cx} {tg l : Expr} {tl : TE} (hl : PE X l tl) : PI X tg l (iSeqA X.K tl) := by
  refine ⟨fun pins s σ H R I h => ?_⟩
  refine thn (hl.run pins s σ H _ I h) fun v s1 ⟨x, H1, I1, r1, q1⟩ => ?_
  obtain ⟨a, xs, e, q⟩ := q1
  subst e
  cases r1
  have fin : ∀ b ∈ [s1.heap.objs.size], FpOk X pins H1 b := fun b hb => by
    have e : b = s1.heap.objs.size := by simpa using hb
    subst e
    exact I1.fpOk (Nat.le_refl _) (I1.hok.fresh (Nat.le_refl _))
  rcases q with ⟨hq, q⟩ | ⟨hq, q⟩
  · obtain ⟨its, rv, p, hz⟩ := I1.list hq
    refine wpAny_pyIter_list p.isList ?_
    exact ⟨s1.heap.objs.size, [s1.heap.objs.size], _, _, H1, rfl, I1.kept (t' := s1.toks) fun b o e => Heap.get?_push_of_some _ e, turn_list a _, ⟨_, Heap.get?_push_size _ rfl, rfl, rfl⟩, fin, q⟩
  · obtain ⟨its, rv, p, hz⟩ := I1.tuple hq
    refine wpAny_pyIter_tuple (show s1.heap.IsTuple a its.toArray from p) ?_
    exact ⟨s1.heap.objs.size, [s1.heap.objs.size], _, _, H1, rfl, I1.kept (t' := s1.toks) fun b o e => Heap.get?_push_of_some _ e, turn_tuple a _, ⟨_, Heap.get?_push_size _ rfl, rfl, rfl⟩, fin, q⟩
/-- no list and no tuple is too long -/
def Lens (K : PySem.W.Frag) (H : Hp) : Prop := ∀ a xs, SqL K H a xs ∨ SqT K H a xs → xs.length ≤ sizeLine
theorem pi_len {X : Cx} {tg e : Expr} {wi : TI} (h : PI X tg e wi) : PI X tg e (fun σ H R => wi σ H fun J H' => Lens X.K H' → R J H') := by
  refine ⟨fun pins s σ H R I q => ?_⟩
  refine thn (h.run pins s σ H _ I q) fun v s1 h1 => thn h1 fun u s2 ⟨it, fp, tn, J, H', e, I', T, st, f, r⟩ => ⟨it, fp, tn, J, H', e, I', T, st, f, r ?_⟩
  intro a xs h
  rcases h with h | h
  · obtain ⟨_, _, _, z⟩ := I'.list h; exact z
  · obtain ⟨_, _, _, z⟩ := I'.tuple h; exact z
end EV
end
section
set_option linter.all false
set_option maxRecDepth 100000
/-! EvZip: zip of a list and a tuple. -/
namespace EV
open PySem PySem.W L2 PySem.Spec PyProof.Rows
/-- a list at a, a tuple at b -/
def ItzM (K : PySem.W.Frag) (a b : Addr) : It :=
  ⟨fun i H => ∃ (xs ys : List V) (x y : V), SqL K H a xs ∧ SqT K H b ys ∧ xs[i]? = some x ∧ ys[i]? = some y,
    fun i H v H' => ∃ T x y, v = .ref T ∧ H T = none ∧ H' = upd H T (.tup [x, y]) ∧ (∀ us, SqL K H a us → us[i]? = some x) ∧ ∀ us, SqT K H b us → us[i]? = some y,
    fun i H => ∃ xs ys : List V, SqL K H a xs ∧ SqT K H b ys ∧ ((i = xs.length ∧ i ≤ ys.length) ∨ (i = ys.length ∧ i ≤ xs.length))⟩
theorem sepM {n a b : Nat} (ha : a < n) (hb : b < n) : ZipSep2 (n + 4) (n + 2) (n + 3) n (n + 1) [n, a] [n + 1, b] := by
  constructor <;> simp
  all_goals
    intro e
    have e2 : @Eq Nat _ _ := e
    omega
theorem turn_zipM {P : Program} {w : World} {K : PySem.W.Frag} {elts : List Expr} {kk : Nat} {tpos : Pos} {a b z TI TO i1 i2 : Addr} (S : ZipSep2 z TI TO i1 i2 [i1, a] [i2, b]) (ha1 : a ≠ i1) (hb2 : b ≠ i2) :
    Turn P w K (.Tuple elts kk tpos) (ItzM K a b) [z, TI, TO, i1, i2] z (fun i h => IsZip h z TI TO .none ∧ IsTupOf2 h TI (.ref i1) (.ref i2) ∧ (∃ x y, IsTupOf2 h TO x y) ∧ h.IsListIter i1 a i ∧ h.IsTupleIter i2 b i) where
  mem := by simp
  obj := fun i h st c hc => by
    obtain ⟨hz, hTI, ⟨x, y, hTO⟩, ⟨o1, e1, _, d1⟩, ⟨o2, e2, _, d2⟩⟩ := st
    have hcc : c = z ∨ c = TI ∨ c = TO ∨ c = i1 ∨ c = i2 := by simpa using hc
    rcases hcc with q | q | q | q | q <;> rw [q]
    · exact ⟨_, hz, fun v q => nomatch q⟩
    · exact ⟨_, hTI, fun v q => nomatch q⟩
    · exact ⟨_, hTO, fun v q => nomatch q⟩
    · exact ⟨o1, e1, fun v q => by rw [d1] at q; cases q⟩
    · exact ⟨o2, e2, fun v q => by rw [d2] at q; cases q⟩
  keep := fun i h h' st k => by
    obtain ⟨hz, hTI, ⟨x, y, hTO⟩, h1, h2⟩ := st
    exact ⟨k z (by simp) _ hz, k TI (by simp) _ hTI, ⟨x, y, k TO (by simp) _ hTO⟩, h1.at fun o q => k i1 (by simp) o q, h2.at fun o q => k i2 (by simp) o q⟩
  item := by
    intro X hP hw hK hc i pins s σ H E I hf st hg
    subst hP hw hK
    obtain ⟨hz, hTI, ⟨x0, y0, hTO⟩, h1, h2⟩ := st
    obtain ⟨xs, ys, x, y, hqx, hqy, hx, hy⟩ := hg
    obtain ⟨its, rv, p, _⟩ := I.list hqx
    obtain ⟨its2, rv2, p2, _⟩ := I.tuple hqy
    obtain ⟨u, hu, ru⟩ := rv.get hx
    obtain ⟨u2, hu2, ru2⟩ := rv2.get hy
    have hzl : z < s.heap.objs.size := Heap.lt_size hz
    have hh : X.A.in1.handled = none := I.ok.hd hc
    have hu' : its.toArray[i]? = some u := by simpa using hu
    have hu2' : its2.toArray[i]? = some u2 := by simpa using hu2
    have D1 := Draws.list (prog := X.prog) (w := X.w) hh i1 a ha1 its.toArray
    have D2 := Draws.tuple (prog := X.prog) (w := X.w) hh i2 b hb2 its2.toArray
    refine wpAny_pyNext_zipD2_item S D1 D2 hz hTI hTO ⟨h1, p.isList⟩ ⟨h2, p2⟩ (Array.getElem?_eq_some_iff.mp hu').1 (Array.getElem?_eq_some_iff.mp hu2').1 fun x1 x2 h' tk y1 y2 z' TO' t1 t2 hT hsz hk => ?_
    have ex1 : x1 = u := Option.some.inj (y1.symm.trans hu')
    have ex2 : x2 = u2 := Option.some.inj (y2.symm.trans hu2')
    subst ex1 ex2
    refine ⟨_, rfl, wpAny_letOwnedTupleGo_zip (s := { s with heap := h', toks := tk }) z' fun h'' z'' sb => ?_⟩
    have hT2 : h''.get? s.heap.objs.size = some { cls := .type "tuple", data := .seq #[x1, x2] } := (sb.2 _ (Nat.ne_of_gt hzl)).trans hT
    have newO : ObjOk X.prog X.w (upd H s.heap.objs.size (.tup [x, y])) h'' s.heap.objs.size (.tup [x, y]) :=
      ⟨by show 2 ≤ sizeLine; decide, [x1, x2], .cons ru (.cons ru2 .nil), ⟨_, hT2, rfl, _, rfl⟩⟩
    have I1 : Inv X pins σ (upd H s.heap.objs.size (.tup [x, y])) { s with heap := h'', toks := tk } :=
      I.turnedNew (t' := tk) (ch := [z, TI, TO, i1, i2]) (fun c o hb q => (sb.2 c (fun q' => hb (by simp [q']))).trans (hk c o (fun q' => hb (by simp [q'])) (fun q' => hb (by simp [q'])) (fun q' => hb (by simp [q'])) (fun q' => hb (by simp [q'])) q)) hf (Nat.le_refl _) newO
    refine ⟨.ref s.heap.objs.size, _, I1, rfl, ⟨_, x, y, rfl, I.hok.fresh (Nat.le_refl _), rfl, fun l hl => by rw [I.list_inj hl hqx]; exact hx, fun l hl => by rw [I.tuple_inj hl hqy]; exact hy⟩, ⟨z'', ?_, ⟨x1, x2, ?_⟩, ?_, ?_⟩, fun c hcm => ?_⟩
    · exact (sb.2 _ S.TIz).trans (hk _ _ S.TIz S.TITO S.TIi1 S.TIi2 hTI)
    · exact (sb.2 _ S.TOz).trans TO'
    · exact t1.1.at fun o q => (sb.2 _ (Ne.symm S.zi1)).trans q
    · exact t2.1.at fun o q => (sb.2 _ (Ne.symm S.zi2)).trans q
    · have hlt : c < s.heap.objs.size := by
        have hcc : c = z ∨ c = TI ∨ c = TO ∨ c = i1 ∨ c = i2 := by simpa using hcm
        rcases hcc with q | q | q | q | q <;> rw [q]
        · exact hzl
        · exact Heap.lt_size hTI
        · exact Heap.lt_size hTO
        · obtain ⟨_, e1, _⟩ := h1; exact Heap.lt_size e1
        · obtain ⟨_, e2, _⟩ := h2; exact Heap.lt_size e2
      rw [upd_ne (Nat.ne_of_lt hlt)]
      exact (hf c hcm).1
  done := by
    intro X hP hw hK hc i pins s σ H E I hf st hg
    subst hP hw hK
    obtain ⟨hz, hTI, ⟨x0, y0, hTO⟩, h1, h2⟩ := st
    obtain ⟨xs, ys, hqx, hqy, hend⟩ := hg
    obtain ⟨its, rv, p, _⟩ := I.list hqx
    obtain ⟨its2, rv2, p2, _⟩ := I.tuple hqy
    have l1 := rv.length
    have l2 := rv2.length
    have hh : X.A.in1.handled = none := I.ok.hd hc
    have D1 := Draws.list (prog := X.prog) (w := X.w) hh i1 a ha1 its.toArray
    have D2 := Draws.tuple (prog := X.prog) (w := X.w) hh i2 b hb2 its2.toArray
    have s1 : its.toArray.size = xs.length := by rw [List.size_toArray, l1]
    have s2 : its2.toArray.size = ys.length := by rw [List.size_toArray, l2]
    refine wpAny_pyNext_zipD2_end S D1 D2 hz hTI hTO ⟨h1, p.isList⟩ ⟨h2, p2⟩ (by omega) (by omega) (by omega) fun h' tk hk => ⟨rfl, I.turnedL (t' := tk) (ch := [z, TI, TO, i1, i2]) (fun c o hb q =>
      hk c o (fun q' => hb (by simp [q'])) (fun q' => hb (by simp [q'])) (fun q' => hb (by simp [q'])) (fun q' => hb (by simp [q'])) q) hf⟩
  self := fun A i s Q E st h => wpAny_pyIter_zip st.1 h
def iZipB (K : PySem.W.Frag) (ta : TA) : TI := fun σ H R => ta σ H fun vs H1 => ∃ a b xs ys, vs = [.ref a, .ref b] ∧ ((SqL K H1 a xs ∧ SqL K H1 b ys ∧ R (Itz K a b) H1) ∨ (SqT K H1 a xs ∧ SqT K H1 b ys ∧ R (RZ.ItzT K a b) H1) ∨ (SqL K H1 a xs ∧ SqT K H1 b ys ∧ R (ItzM K a b) H1))
theorem pi_zipB {X : Cx} {e e2 : Expr} {ta : TA} {p pos tpos : Pos} {elts : List Expr} {kk : Nat} (hg : Gl X "zip") (hm : X.mg "zip" = none) (ha : PA X [e, e2] ta)
    (hs : starEach [e, e2] X.env = (false, eval e X.env) :: starEach [e2] X.env := by rfl) (hpl : (backTo pos (starEach [e2] X.env)).any (·.1) = false := by rfl) :
    PI X (.Tuple elts kk tpos) (.Call (.Name "zip" p) [e, e2] [] pos) (iZipB X.K ta) := by
  refine ⟨fun pins s σ H R I h => ?_⟩
  refine Call_ (ld_blt I hg hm PyProof.Rows.boot_zip (PyProof.Rows.callWith_type1 (thn (ha.run pos pins s σ H _ I h) fun us s1 ⟨vs, H1, I1, r1, q1⟩ => ?_) hs hpl))
  obtain ⟨a, b, xs, ys, ex, q1⟩ := q1
  subst ex
  cases r1 with
  | cons r rr =>
    cases rr with
    | cons r' rr =>
      cases rr
      cases r
      cases r'
      have fresh5 : ∀ c, c ∈ [s1.heap.objs.size + 4, s1.heap.objs.size + 2, s1.heap.objs.size + 3, s1.heap.objs.size, s1.heap.objs.size + 1] → FpOk X pins H1 c := fun c hcm => by
        have hcc : c = s1.heap.objs.size + 4 ∨ c = s1.heap.objs.size + 2 ∨ c = s1.heap.objs.size + 3 ∨ c = s1.heap.objs.size ∨ c = s1.heap.objs.size + 1 := by simpa using hcm
        have hle : s1.heap.objs.size ≤ c := by
          rcases hcc with z | z | z | z | z <;> rw [z] <;> first | exact Nat.le_add_right _ _ | exact Nat.le_refl _
        exact I1.fpOk hle (I1.hok.fresh hle)
      rcases q1 with ⟨hqx, hqy, q⟩ | ⟨hqx, hqy, q⟩ | ⟨hqx, hqy, q⟩
      · obtain ⟨its, rv, p1, _⟩ := I1.list hqx
        obtain ⟨its2, rv2, p2, _⟩ := I1.list hqy
        refine call_zip_2 p1.isList p2.isList fun h' hz hTI hTO h1 h2 hsz hk => wpAny_pyIter_zip hz ?_
        exact ⟨_, _, _, _, H1, rfl, I1.kept (t' := s1.toks) hk, turn_zip (PySem.W.ktu_apart _ a b p1.lt p2.lt), ⟨hz, hTI, ⟨_, _, hTO⟩, h1, h2⟩, fresh5, q⟩
      · obtain ⟨its, rv, p1, _⟩ := I1.tuple hqx
        obtain ⟨its2, rv2, p2, _⟩ := I1.tuple hqy
        obtain ⟨o1, ho1, _⟩ := id p1
        obtain ⟨o2, ho2, _⟩ := id p2
        refine RZ.call_zipT (show s1.heap.IsTuple a its.toArray from p1) (show s1.heap.IsTuple b its2.toArray from p2) fun h' hz hTI hTO h1 h2 hsz hk => wpAny_pyIter_zip hz ?_
        exact ⟨_, _, _, _, H1, rfl, I1.kept (t' := s1.toks) hk, RZ.turn_zipT (PySem.W.ktu_apart _ a b (Heap.lt_size ho1) (Heap.lt_size ho2)), ⟨hz, hTI, ⟨_, _, hTO⟩, h1, h2⟩, fresh5, q⟩
      · obtain ⟨its, rv, p1, _⟩ := I1.list hqx
        obtain ⟨its2, rv2, p2, _⟩ := I1.tuple hqy
        obtain ⟨o2, ho2, _⟩ := id p2
        have la : a < s1.heap.objs.size := p1.lt
        have lb : b < s1.heap.objs.size := Heap.lt_size ho2
        refine zip_begins2 (begins_list a its.toArray) (begins_tuple b its2.toArray) p1.isList p2 fun h' hz hTI hTO h1 h2 hsz hk => wpAny_pyIter_zip hz ?_
        exact ⟨_, _, _, _, H1, rfl, I1.kept (t' := s1.toks) hk, turn_zipM (sepM la lb) (Nat.ne_of_lt la) (Nat.ne_of_lt (Nat.lt_succ_of_lt lb)), ⟨hz, hTI, ⟨_, _, hTO⟩, ⟨_, h1, rfl, rfl⟩, ⟨_, h2, rfl, rfl⟩⟩, fresh5, q⟩
end EV
end
section
set_option linter.all false
set_option maxRecDepth 100000
/-! EvSrc: sources of loops, targets, hidden slots. -/
namespace EV
open PySem PySem.W L2 PySem.Spec PyProof.Rows RZ
def GP (P : List (Addr × HO)) (H : Hp) : Prop := ∀ p ∈ P, H p.1 = some p.2
structure WalkD (k : Kx) (J : It) (xs : List D) (Φ0 : Frz) (H0 : Hp) (P : List (Addr × HO)) : Prop where
  goes : ∀ i H, i < xs.length → GP P H → J.go i H
  stops : ∀ H, GP P H → J.stop xs.length H
  yields : ∀ i H x H' Φ1, i < xs.length → GP P H → Stay Φ0 H0 Φ1 H → J.yld i H x H' → Fresh H H' [] ∧ ∃ d, xs[i]? = some d ∧ k.RD Φ1 H' x d
def PinOk (Φ : Frz) (H : Hp) (fp : Fp) (hid : List Nat) (p : Addr × HO) : Prop := H p.1 = some p.2 ∧ (∀ ps, p.2 ≠ .tbl ps) ∧ (¬ Mut (some p.2) ∨ Φ p.1 ∨ ∃ i ∈ hid, p.1 ∈ fp i)
def PostI (k : Kx) (Φ : Frz) (H : Hp) (σ : L2.St) (fp : Fp) (Q : It → Hp → Prop) : R (List D × Env × List Nat) → Prop
  | .ok (xs, ρ', hid) => ∀ J Φ' H' fp' P, Stp Φ H fp Φ' H' fp' [] → k.Sta Φ' H' σ ρ' fp' [] → k.Tb H' → xs.length ≤ sizeLine → (∀ p ∈ P, PinOk Φ' H' fp' hid p) → WalkD k J xs Φ' H' P → Q J H'
  | .exc n => PostE k Φ H fp n
  | .bad => False
def TIx (k : Kx) (src : Src) : TI := fun σ H Q => ∃ ρ Φ fp, k.Sta Φ H σ ρ fp [] ∧ k.Tb H ∧ PostI k Φ H σ fp Q (evSrc k.c src ρ)
abbrev PSx (k : Kx) (tg e : Expr) (src : Src) : Prop := PI k.X tg e (TIx k src)
theorem pi_of {X : Cx} {tg e : Expr} {t t' : TI} (h : PI X tg e t) (hh : ∀ σ H R, t' σ H R → t σ H R) : PI X tg e t' := ⟨fun pins s σ H R I q => h.run pins s σ H R I (hh σ H R q)⟩
section
variable {k : Kx} {Φ Φ' : Frz} {H H' : Hp} {σ : L2.St} {ρ ρ' : Env} {fp fp' : Fp} {G G' : List Addr}
theorem GP.one {a : Addr} {o : HO} (h : GP [(a, o)] H) : H a = some o := h _ List.mem_cons_self
theorem GP.two {a b : Addr} {o u : HO} (h : GP [(a, o), (b, u)] H) : H a = some o ∧ H b = some u := ⟨h _ List.mem_cons_self, h _ (List.mem_cons_of_mem _ List.mem_cons_self)⟩
/-! ### what is walked -/
theorem walkD_list {a : Addr} {vs : List V} {xs : List D} (r : k.RDs Φ H vs xs) : WalkD k (Itl k.X.K a) xs Φ H [(a, .lst vs)] where
  goes := fun i H hi g => by
    have hl : i < vs.length := by rw [r.length]; exact hi
    exact ⟨vs, vs[i], SqL.of g.one, by simp [hl]⟩
  stops := fun H g => ⟨vs, SqL.of g.one, by rw [r.length]; exact Nat.le_refl _⟩
  yields := fun i H1 x H' Φ1 hi g st y => by
    obtain ⟨rfl, hx⟩ := y
    have hx := hx vs (SqL.of g.one)
    have hd : xs[i]? = some xs[i] := by simp [hi]
    obtain ⟨v, hv, rv⟩ := r.get hd
    rw [hx] at hv
    cases hv
    exact ⟨Fresh.refl, _, hd, rv.stay st⟩
theorem walkD_tup {a : Addr} {vs : List V} {xs : List D} (r : k.RDs Φ H vs xs) : WalkD k (Itt k.X.K a) xs Φ H [(a, .tup vs)] where
  goes := fun i H hi g => by
    have hl : i < vs.length := by rw [r.length]; exact hi
    exact ⟨vs, vs[i], SqT.of g.one, by simp [hl]⟩
  stops := fun H g => ⟨vs, SqT.of g.one, by rw [r.length]; exact Nat.le_refl _⟩
  yields := fun i H1 x H' Φ1 hi g st y => by
    obtain ⟨rfl, hx⟩ := y
    have hx := hx vs (SqT.of g.one)
    have hd : xs[i]? = some xs[i] := by simp [hi]
    obtain ⟨v, hv, rv⟩ := r.get hd
    rw [hx] at hv
    cases hv
    exact ⟨Fresh.refl, _, hd, rv.stay st⟩
theorem enumL_get {xs : List D} : ∀ {i j : Nat} {d : D}, xs[i]? = some d → (enumL j xs)[i]? = some (.tup [.int ((j + i : Nat) : Int), d]) := by
  induction xs with
  | nil => intro i j d h; cases h
  | cons x xs ih =>
    intro i j d h
    cases i with
    | zero => cases h; rfl
    | succ i =>
      have := ih (j := j + 1) (show xs[i]? = some d from h)
      show (enumL (j + 1) xs)[i]? = _
      rw [this]
      have : j + 1 + i = j + (i + 1) := by omega
      rw [this]
theorem enumL_length (xs : List D) : ∀ j, (enumL j xs).length = xs.length := by
  induction xs with
  | nil => intro j; rfl
  | cons x xs ih => intro j; show (enumL (j + 1) xs).length + 1 = _; rw [ih]; rfl
theorem walkD_enum {a : Addr} {vs : List V} {xs : List D} (r : k.RDs Φ H vs xs) : WalkD k (Ite k.X.K a) (enumL 0 xs) Φ H [(a, .lst vs)] where
  goes := fun i H hi g => by
    rw [enumL_length] at hi
    have hl : i < vs.length := by rw [r.length]; exact hi
    exact ⟨vs, vs[i], SqL.of g.one, by simp [hl]⟩
  stops := fun H g => ⟨vs, SqL.of g.one, by rw [enumL_length, r.length]; exact Nat.le_refl _⟩
  yields := fun i H1 x H' Φ1 hi g st y => by
    rw [enumL_length] at hi
    obtain ⟨T, u, rfl, hT, rfl, hx⟩ := y
    have hx := hx vs (SqL.of g.one)
    have hd : xs[i]? = some xs[i] := by simp [hi]
    obtain ⟨v, hv, rv⟩ := r.get hd
    rw [hx] at hv
    cases hv
    have f : Fresh H1 (upd H1 T (.tup [.int (i : Nat), u])) [] := Fresh.tup hT
    refine ⟨f, _, enumL_get hd, ?_⟩
    rw [Nat.zero_add]
    exact .tup upd_same (.cons (.int _) (.cons ((rv.stay st).stay f.stay) .nil))
theorem walkD_enumT {a : Addr} {vs : List V} {xs : List D} (r : k.RDs Φ H vs xs) : WalkD k (IteT k.X.K a) (enumL 0 xs) Φ H [(a, .tup vs)] where
  goes := fun i H hi g => by
    rw [enumL_length] at hi
    have hl : i < vs.length := by rw [r.length]; exact hi
    exact ⟨vs, vs[i], SqT.of g.one, by simp [hl]⟩
  stops := fun H g => ⟨vs, SqT.of g.one, by rw [enumL_length, r.length]; exact Nat.le_refl _⟩
  yields := fun i H1 x H' Φ1 hi g st y => by
    rw [enumL_length] at hi
    obtain ⟨T, u, rfl, hT, rfl, hx⟩ := y
    have hx := hx vs (SqT.of g.one)
    have hd : xs[i]? = some xs[i] := by simp [hi]
    obtain ⟨v, hv, rv⟩ := r.get hd
    rw [hx] at hv
    cases hv
    have f : Fresh H1 (upd H1 T (.tup [.int (i : Nat), u])) [] := Fresh.tup hT
    refine ⟨f, _, enumL_get hd, ?_⟩
    rw [Nat.zero_add]
    exact .tup upd_same (.cons (.int _) (.cons ((rv.stay st).stay f.stay) .nil))
theorem zipL_length : ∀ xs ys : List D, (zipL xs ys).length = min xs.length ys.length
  | [], ys => by simp [zipL]
  | x :: xs, [] => by simp [zipL]
  | x :: xs, y :: ys => by simp only [zipL, List.length_cons, zipL_length xs ys]; omega
theorem zipL_get : ∀ {xs ys : List D} {i : Nat} {x y : D}, xs[i]? = some x → ys[i]? = some y → (zipL xs ys)[i]? = some (.tup [x, y])
  | [], _, _, _, _, h, _ => by cases h
  | _ :: _, [], _, _, _, _, h => by cases h
  | a :: xs, b :: ys, 0, x, y, h, h' => by cases h; cases h'; rfl
  | a :: xs, b :: ys, i + 1, x, y, h, h' => by
    have := zipL_get (xs := xs) (ys := ys) (i := i) h h'
    exact this
theorem walkD_zip {a b : Addr} {vs ws : List V} {xs ys : List D} (r : k.RDs Φ H vs xs) (r' : k.RDs Φ H ws ys) : WalkD k (Itz k.X.K a b) (zipL xs ys) Φ H [(a, .lst vs), (b, .lst ws)] where
  goes := fun i H hi g => by
    rw [zipL_length] at hi
    have hl : i < vs.length := by rw [r.length]; omega
    have hl' : i < ws.length := by rw [r'.length]; omega
    exact ⟨vs, ws, vs[i], ws[i], SqL.of g.two.1, SqL.of g.two.2, by simp [hl], by simp [hl']⟩
  stops := fun H g => ⟨vs, ws, SqL.of g.two.1, SqL.of g.two.2, by rw [zipL_length, r.length, r'.length]; omega⟩
  yields := fun i H1 x H' Φ1 hi g st y => by
    rw [zipL_length] at hi
    obtain ⟨T, u, u', rfl, hT, rfl, hx, hy⟩ := y
    have hx := hx vs (SqL.of g.two.1)
    have hy := hy ws (SqL.of g.two.2)
    have hd : xs[i]? = some (xs[i]'(by omega)) := by simp [show i < xs.length by omega]
    have hd' : ys[i]? = some (ys[i]'(by omega)) := by simp [show i < ys.length by omega]
    obtain ⟨v, hv, rv⟩ := r.get hd
    obtain ⟨w, hw, rw'⟩ := r'.get hd'
    rw [hx] at hv
    cases hv
    rw [hy] at hw
    cases hw
    have f : Fresh H1 (upd H1 T (.tup [u, u'])) [] := Fresh.tup hT
    exact ⟨f, _, zipL_get hd hd', .tup upd_same (.cons ((rv.stay st).stay f.stay) (.cons ((rw'.stay st).stay f.stay) .nil))⟩
theorem walkD_zipT {a b : Addr} {vs ws : List V} {xs ys : List D} (r : k.RDs Φ H vs xs) (r' : k.RDs Φ H ws ys) : WalkD k (ItzT k.X.K a b) (zipL xs ys) Φ H [(a, .tup vs), (b, .tup ws)] where
  goes := fun i H hi g => by
    rw [zipL_length] at hi
    have hl : i < vs.length := by rw [r.length]; omega
    have hl' : i < ws.length := by rw [r'.length]; omega
    exact ⟨vs, ws, vs[i], ws[i], SqT.of g.two.1, SqT.of g.two.2, by simp [hl], by simp [hl']⟩
  stops := fun H g => ⟨vs, ws, SqT.of g.two.1, SqT.of g.two.2, by rw [zipL_length, r.length, r'.length]; omega⟩
  yields := fun i H1 x H' Φ1 hi g st y => by
    rw [zipL_length] at hi
    obtain ⟨T, u, u', rfl, hT, rfl, hx, hy⟩ := y
    have hx := hx vs (SqT.of g.two.1)
    have hy := hy ws (SqT.of g.two.2)
    have hd : xs[i]? = some (xs[i]'(by omega)) := by simp [show i < xs.length by omega]
    have hd' : ys[i]? = some (ys[i]'(by omega)) := by simp [show i < ys.length by omega]
    obtain ⟨v, hv, rv⟩ := r.get hd
    obtain ⟨w, hw, rw'⟩ := r'.get hd'
    rw [hx] at hv
    cases hv
    rw [hy] at hw
    cases hw
    have f : Fresh H1 (upd H1 T (.tup [u, u'])) [] := Fresh.tup hT
    exact ⟨f, _, zipL_get hd hd', .tup upd_same (.cons ((rv.stay st).stay f.stay) (.cons ((rw'.stay st).stay f.stay) .nil))⟩
theorem walkD_zipM {a b : Addr} {vs ws : List V} {xs ys : List D} (r : k.RDs Φ H vs xs) (r' : k.RDs Φ H ws ys) : WalkD k (ItzM k.X.K a b) (zipL xs ys) Φ H [(a, .lst vs), (b, .tup ws)] where
  goes := fun i H hi g => by
    rw [zipL_length] at hi
    have hl : i < vs.length := by rw [r.length]; omega
    have hl' : i < ws.length := by rw [r'.length]; omega
    exact ⟨vs, ws, vs[i], ws[i], SqL.of g.two.1, SqT.of g.two.2, by simp [hl], by simp [hl']⟩
  stops := fun H g => ⟨vs, ws, SqL.of g.two.1, SqT.of g.two.2, by rw [zipL_length, r.length, r'.length]; omega⟩
  yields := fun i H1 x H' Φ1 hi g st y => by
    rw [zipL_length] at hi
    obtain ⟨T, u, u', rfl, hT, rfl, hx, hy⟩ := y
    have hx := hx vs (SqL.of g.two.1)
    have hy := hy ws (SqT.of g.two.2)
    have hd : xs[i]? = some (xs[i]'(by omega)) := by simp [show i < xs.length by omega]
    have hd' : ys[i]? = some (ys[i]'(by omega)) := by simp [show i < ys.length by omega]
    obtain ⟨v, hv, rv⟩ := r.get hd
    obtain ⟨w, hw, rw'⟩ := r'.get hd'
    rw [hx] at hv
    cases hv
    rw [hy] at hw
    cases hw
    have f : Fresh H1 (upd H1 T (.tup [u, u'])) [] := Fresh.tup hT
    exact ⟨f, _, zipL_get hd hd', .tup upd_same (.cons ((rv.stay st).stay f.stay) (.cons ((rw'.stay st).stay f.stay) .nil))⟩
theorem rangeL_length (lo : Int) : ∀ n, (rangeL lo n).length = n := by
  intro n
  induction n generalizing lo with
  | zero => rfl
  | succ n ih => show (rangeL (lo + 1) n).length + 1 = _; rw [ih]
theorem rangeL_get (lo : Int) : ∀ {n i : Nat}, i < n → (rangeL lo n)[i]? = some (.int (lo + i)) := by
  intro n
  induction n generalizing lo with
  | zero => intro i h; cases h
  | succ n ih =>
    intro i h
    cases i with
    | zero => show some (D.int lo) = _; simp
    | succ i =>
      show (rangeL (lo + 1) n)[i]? = _
      rw [ih (lo + 1) (by omega)]
      have : lo + 1 + (i : Int) = lo + ((i + 1 : Nat) : Int) := by omega
      rw [this]
theorem walkD_range {lo : Int} {n : Nat} : WalkD k (Itr lo n) (rangeL lo n) Φ H [] where
  goes := fun i H hi g => by rw [rangeL_length] at hi; exact hi
  stops := fun H g => by rw [rangeL_length]; exact Nat.le_refl _
  yields := fun i H1 x H' Φ1 hi g st y => by
    rw [rangeL_length] at hi
    obtain ⟨rfl, rfl⟩ := y
    exact ⟨Fresh.refl, _, rangeL_get lo hi, .int _⟩
theorem walkD_down {lo : Int} {n : Nat} : WalkD k (Itc lo (-1) n) ((List.range n).map fun j => D.int (lo - (j : Nat))) Φ H [] where
  goes := fun i H hi g => by have z : i < n := by { simpa using hi }; exact z
  stops := fun H g => by have z : n ≤ ((List.range n).map fun j => D.int (lo - (j : Nat))).length := by { simp }; exact z
  yields := fun i H1 x H' Φ1 hi g st y => by
    have hi : i < n := by simpa using hi
    obtain ⟨rfl, rfl⟩ := y
    refine ⟨Fresh.refl, .int (lo - i), by simp [hi], ?_⟩
    have : lo + (i : Int) * -1 = lo - i := by omega
    rw [this]
    exact .int _

/-! ### the sources' rules -/
/-- a list or tuple that is read -/
theorem seq_pin {hid : List Nat} {v : V} {d : D} {xs : List D} (r : RV k.X.K k.fa Φ H v d) (hp : ∀ a o, v = .ref a → (∃ zs, d = .lst zs) → ¬ (Φ a) → H a = some o → ∃ i ∈ hid, a ∈ fp i) (h : itemsOf d = some xs) :
    ∃ a vs, v = .ref a ∧ k.RDs Φ H vs xs ∧ ((d = .lst xs ∧ SqL k.X.K H a vs ∧ PinOk Φ H fp hid (a, .lst vs)) ∨ (d = .tup xs ∧ SqT k.X.K H a vs ∧ PinOk Φ H fp hid (a, .tup vs))) := by
  cases d with
  | lst zs =>
    cases h
    obtain ⟨a, vs, rfl, e, r'⟩ := r.lstI
    refine ⟨a, vs, rfl, r', .inl ⟨rfl, SqL.of e, e, (fun _ z => by cases z), ?_⟩⟩
    by_cases f : Φ a
    · exact .inr (.inl f)
    · exact .inr (.inr (hp a _ rfl ⟨_, rfl⟩ f e))
  | tup zs =>
    cases h
    obtain ⟨a, vs, rfl, e, r'⟩ := r.tupI
    exact ⟨a, vs, rfl, r', .inr ⟨rfl, SqT.of e, e, (fun _ z => by cases z), .inl fun z => z⟩⟩
  | _ => cases h
theorem rd_pin {hid : List Nat} {v : V} {d : D} {xs : List D} (r : k.RD Φ H v d) (h : itemsOf d = some xs) :
    ∃ a vs, v = .ref a ∧ k.RDs Φ H vs xs ∧ ((d = .lst xs ∧ SqL k.X.K H a vs ∧ PinOk Φ H fp hid (a, .lst vs)) ∨ (d = .tup xs ∧ SqT k.X.K H a vs ∧ PinOk Φ H fp hid (a, .tup vs))) :=
  seq_pin (.of r) (fun a o e ⟨zs, ez⟩ nf _ => by subst e; subst ez; cases r with | lst f _ _ => exact absurd f nf) h
theorem keysD_items {d : D} : keysD d = itemsOf d := by cases d <;> rfl
theorem psx_x {tg e : Expr} {x : X} (h : PX k e x) : PSx k tg e (.x x) :=
  pi_of (pi_len (pi_seqA h)) fun σ H R ⟨ρ, Φ, fp, S, T, q⟩ => ⟨ρ, Φ, fp, S, T, by
    unfold evSrc at q
    cases hx : evX k.c x ρ with
    | bad => rw [hx] at q; exact q
    | exc n => rw [hx] at q; exact q
    | ok p =>
      rw [hx] at q
      obtain ⟨e, ρ1⟩ := p
      intro v Φ1 H1 fp1 G1 st S1 re T1
      replace q : PostI k Φ H σ fp R ((EV.R.ofO (keysD e.frz)).bind fun xs => .ok (xs, ρ1, [])) := q
      rw [keysD_items] at q
      cases hi : itemsOf e.frz with
      | none => rw [hi] at q; exact q.elim
      | some xs =>
        rw [hi] at q
        have rd : k.RD (addF Φ1 G1) H1 v e.frz := re.frz (fun _ z => .inl z) fun a z => .inr z
        obtain ⟨a, vs, rfl, rds, ⟨_, sq, pn⟩ | ⟨_, sq, pn⟩⟩ := rd_pin (fp := fp1) (hid := []) rd hi
        · exact ⟨a, vs, rfl, .inl ⟨sq, fun ln => q _ _ H1 fp1 [(a, .lst vs)] st.frzAll S1.frzAll T1 (by rw [← rds.length]; exact ln a vs (.inl sq)) (fun p hp => by rw [List.mem_singleton.mp hp]; exact pn) (walkD_list rds)⟩⟩
        · exact ⟨a, vs, rfl, .inr ⟨sq, fun ln => q _ _ H1 fp1 [(a, .tup vs)] st.frzAll S1.frzAll T1 (by rw [← rds.length]; exact ln a vs (.inr sq)) (fun p hp => by rw [List.mem_singleton.mp hp]; exact pn) (walkD_tup rds)⟩⟩⟩
/-- what a slot holds, as it is read -/
theorem slot_rv {i : Nat} (S : k.Sta Φ H σ ρ fp []) {e : E} {d : D} (hl : look ρ i = some e) (hr : e.rd = some d) : ∃ v, σ[i]? = some (some v) ∧ RV k.X.K k.fa Φ H v d ∧ (∀ a o, v = .ref a → (∃ zs, d = .lst zs) → ¬ Φ a → H a = some o → ∃ j ∈ [i], a ∈ fp j) := by
  obtain ⟨v, h1, re⟩ := S.env.at_ i e hl
  refine ⟨v, h1, ?_⟩
  cases e with
  | d x =>
    cases hr
    refine ⟨.of re.dI.1, fun a o ev ⟨zs, ez⟩ nf _ => ?_⟩
    subst ev; subst ez
    cases re.dI.1 with
    | lst f _ _ => exact absurd f nf
  | l xs =>
    cases hr
    obtain ⟨a, ws, rfl, hf, h3, h4⟩ := re.lI
    exact ⟨.lst h3 h4, fun b o ev _ _ _ => by cases ev; exact ⟨i, List.mem_singleton.mpr rfl, by rw [hf]; simp⟩⟩
  | ll xs => cases hr
  | dk xs =>
    cases hr
    obtain ⟨a, ws, rfl, hf, h3, h4⟩ := re.dkI
    exact ⟨.dk h3 h4, fun b o ev ⟨zs, ez⟩ _ _ => by cases ez⟩
  | dt xs =>
    cases hr
    obtain ⟨a, ws, rfl, hf, h3, h4⟩ := re.dtI
    exact ⟨.dt h3 h4, fun b o ev ⟨zs, ez⟩ _ _ => by cases ez⟩
theorem psx_slt {tg e : Expr} {i : Nat} (h : PE k.X e (tVar i)) : PSx k tg e (.slt i) :=
  pi_of (pi_len (pi_seqA h)) fun σ H R ⟨ρ, Φ, fp, S, T, q⟩ => by
    unfold evSrc at q
    cases hl : look ρ i with
    | none => rw [hl] at q; exact q.elim
    | some e0 =>
      rw [hl, Option.bind_some] at q
      cases hr : e0.rd with
      | none => rw [hr] at q; exact q.elim
      | some d =>
        rw [hr, Option.bind_some, keysD_items] at q
        cases hi : itemsOf d with
        | none => rw [hi] at q; exact q.elim
        | some xs =>
          rw [hi] at q
          obtain ⟨v, h1, rv, hp⟩ := slot_rv S hl hr
          obtain ⟨a, vs, rfl, rds, ⟨_, sq, pn⟩ | ⟨_, sq, pn⟩⟩ := seq_pin (fp := fp) (hid := [i]) rv hp hi
          · exact ⟨.ref a, h1, a, vs, rfl, .inl ⟨sq, fun ln => q _ _ H fp [(a, .lst vs)] Stp.refl S T (by rw [← rds.length]; exact ln a vs (.inl sq)) (fun p hp => by rw [List.mem_singleton.mp hp]; exact pn) (walkD_list rds)⟩⟩
          · exact ⟨.ref a, h1, a, vs, rfl, .inr ⟨sq, fun ln => q _ _ H fp [(a, .tup vs)] Stp.refl S T (by rw [← rds.length]; exact ln a vs (.inr sq)) (fun p hp => by rw [List.mem_singleton.mp hp]; exact pn) (walkD_tup rds)⟩⟩
theorem psx_en {elts : List Expr} {kk : Nat} {p pos tpos : Pos} {e : Expr} {x : X} (hg : Gl k.X "enumerate") (hm : k.X.mg "enumerate" = none) (h : PX k e x) (hs : starEach [e] k.X.env = [(false, eval e k.X.env)] := by rfl) :
    PSx k (.Tuple elts kk tpos) (.Call (.Name "enumerate" p) [e] [] pos) (.en x) :=
  pi_of (pi_len (pi_enumA hg hm (pa_cons h pa_nil hs) hs)) fun σ H R ⟨ρ, Φ, fp, S, T, q⟩ => ⟨ρ, Φ, fp, S, T, by
    unfold evSrc at q
    cases hx : evX k.c x ρ with
    | bad => rw [hx] at q; exact q
    | exc n => rw [hx] at q; exact q
    | ok p =>
      rw [hx] at q
      obtain ⟨e, ρ1⟩ := p
      intro v Φ1 H1 fp1 G1 st S1 re T1
      replace q : PostI k Φ H σ fp R ((EV.R.ofO (itemsOf e.frz)).bind fun xs => .ok (enumL 0 xs, ρ1, [])) := q
      cases hi : itemsOf e.frz with
      | none => rw [hi] at q; exact q.elim
      | some xs =>
        rw [hi] at q
        have rd : k.RD (addF Φ1 G1) H1 v e.frz := re.frz (fun _ z => .inl z) fun a z => .inr z
        obtain ⟨a, vs, rfl, rds, ⟨_, sq, pn⟩ | ⟨_, sq, pn⟩⟩ := rd_pin (fp := fp1) (hid := []) rd hi
        · exact ⟨a, vs, rfl, .inl ⟨sq, fun ln => q _ _ H1 fp1 [(a, .lst vs)] st.frzAll S1.frzAll T1 (by rw [enumL_length, ← rds.length]; exact ln a vs (.inl sq)) (fun p hp => by rw [List.mem_singleton.mp hp]; exact pn) (walkD_enum rds)⟩⟩
        · exact ⟨a, vs, rfl, .inr ⟨sq, fun ln => q _ _ H1 fp1 [(a, .tup vs)] st.frzAll S1.frzAll T1 (by rw [enumL_length, ← rds.length]; exact ln a vs (.inr sq)) (fun p hp => by rw [List.mem_singleton.mp hp]; exact pn) (walkD_enumT rds)⟩⟩⟩
theorem psx_enS {elts : List Expr} {kk : Nat} {p pos tpos : Pos} {e : Expr} {i : Nat} (hg : Gl k.X "enumerate") (hm : k.X.mg "enumerate" = none) (h : PE k.X e (tVar i)) (hs : starEach [e] k.X.env = [(false, eval e k.X.env)] := by rfl) :
    PSx k (.Tuple elts kk tpos) (.Call (.Name "enumerate" p) [e] [] pos) (.enS i) :=
  pi_of (pi_len (pi_enumA hg hm (pa_cons h pa_nil hs) hs)) fun σ H R ⟨ρ, Φ, fp, S, T, q⟩ => by
    unfold evSrc at q
    cases hl : look ρ i with
    | none => rw [hl] at q; exact q.elim
    | some e0 =>
      rw [hl, Option.bind_some] at q
      cases hr : e0.rd with
      | none => rw [hr] at q; exact q.elim
      | some d =>
        rw [hr, Option.bind_some] at q
        cases hi : itemsOf d with
        | none => rw [hi] at q; exact q.elim
        | some xs =>
          rw [hi] at q
          obtain ⟨v, h1, rv, hp⟩ := slot_rv S hl hr
          obtain ⟨a, vs, rfl, rds, ⟨_, sq, pn⟩ | ⟨_, sq, pn⟩⟩ := seq_pin (fp := fp) (hid := [i]) rv hp hi
          · exact ⟨.ref a, h1, a, vs, rfl, .inl ⟨sq, fun ln => q _ _ H fp [(a, .lst vs)] Stp.refl S T (by rw [enumL_length, ← rds.length]; exact ln a vs (.inl sq)) (fun p hp => by rw [List.mem_singleton.mp hp]; exact pn) (walkD_enum rds)⟩⟩
          · exact ⟨.ref a, h1, a, vs, rfl, .inr ⟨sq, fun ln => q _ _ H fp [(a, .tup vs)] Stp.refl S T (by rw [enumL_length, ← rds.length]; exact ln a vs (.inr sq)) (fun p hp => by rw [List.mem_singleton.mp hp]; exact pn) (walkD_enumT rds)⟩⟩
/-- the arguments, each with what is pinned of it -/
def SeqPin (k : Kx) (Φ : Frz) (H : Hp) (fp : Fp) (hid : List Nat) (v : V) (d : D) : Prop := ∀ xs, itemsOf d = some xs → ∃ a vs, v = .ref a ∧ k.RDs Φ H vs xs ∧ ((d = .lst xs ∧ SqL k.X.K H a vs ∧ PinOk Φ H fp hid (a, .lst vs)) ∨ (d = .tup xs ∧ SqT k.X.K H a vs ∧ PinOk Φ H fp hid (a, .tup vs)))
inductive Pins (k : Kx) (Φ : Frz) (H : Hp) (fp : Fp) (hid : List Nat) : List V → List D → Prop
  | nil : Pins k Φ H fp hid [] []
  | cons {v : V} {vs : List V} {d : D} {ds : List D} : SeqPin k Φ H fp hid v d → Pins k Φ H fp hid vs ds → Pins k Φ H fp hid (v :: vs) (d :: ds)
theorem PinOk.frz {hid : List Nat} {p : Addr × HO} (h : PinOk Φ H fp hid p) : PinOk (addF Φ G) H fp hid p := ⟨h.1, h.2.1, h.2.2.imp id (Or.imp .inl id)⟩
theorem PinOk.hid {hid hid' : List Nat} {p : Addr × HO} (h : PinOk Φ H fp hid p) (hh : ∀ i ∈ hid, i ∈ hid') : PinOk Φ H fp hid' p := ⟨h.1, h.2.1, h.2.2.imp id (Or.imp id fun ⟨i, h1, h2⟩ => ⟨i, hh i h1, h2⟩)⟩
theorem fill_pins {l : List Addr} (s : k.Sta Φ H σ ρ fp G) {vs : List V} {as : List Arg} (ra : RAs k.X.K k.fa Φ H σ vs as l) : ∀ {ds : List D}, (∀ a ∈ l, a ∈ G) → fillD ρ as = some ds → ∀ hid, (∀ i ∈ slots as, i ∈ hid) → Pins k (addF Φ G) H fp hid vs ds := by
  induction ra with
  | nil => intro ds _ h hid _; cases h; exact .nil
  | @s v vs i r G' h1 ra ih =>
    intro ds hl h hid hh
    unfold fillD at h
    cases e : look ρ i with
    | none => rw [e] at h; cases h
    | some x =>
      rw [e, Option.bind_some] at h
      cases hr : x.rd with
      | none => rw [hr] at h; cases h
      | some d =>
        cases f : fillD ρ r with
        | none => rw [hr, f] at h; cases h
        | some b =>
          rw [hr, f] at h
          cases h
          refine .cons ?_ (ih hl f hid fun j hj => hh j (List.mem_cons_of_mem _ hj))
          intro xs hi
          obtain ⟨w, h2, rv, hp⟩ := slot_rv s.temp e hr
          have ew : w = v := by rw [h1] at h2; exact (Option.some.inj (Option.some.inj h2)).symm
          subst ew
          obtain ⟨a, us, rfl, rds, pn⟩ := seq_pin (fp := fp) (hid := [i]) rv hp hi
          have hin : ∀ j ∈ [i], j ∈ hid := fun j hj => by rw [List.mem_singleton.mp hj]; exact hh i List.mem_cons_self
          refine ⟨a, us, rfl, rds.stay (Stay.more fun _ z => .inl z), ?_⟩
          rcases pn with ⟨z1, z2, z3⟩ | ⟨z1, z2, z3⟩
          · exact .inl ⟨z1, z2, (z3.hid hin).frz⟩
          · exact .inr ⟨z1, z2, (z3.hid hin).frz⟩
  | @v v vs e r l G' re ra ih =>
    intro ds hl h hid hh
    unfold fillD at h
    cases f : fillD ρ r with
    | none => rw [f] at h; cases h
    | some b =>
      rw [f] at h
      cases h
      refine .cons ?_ (ih (fun a z => hl a (List.mem_append_left _ z)) f hid hh)
      intro xs hi
      exact rd_pin (re.frz (fun _ z => .inl z) fun a z => .inr (hl a (List.mem_append_right _ z))) hi
theorem psx_zip {elts : List Expr} {kk : Nat} {p pos tpos : Pos} {e e2 : Expr} {as : As} (hg : Gl k.X "zip") (hm : k.X.mg "zip" = none) (h : PAs k [e, e2] as)
    (hs : starEach [e, e2] k.X.env = (false, eval e k.X.env) :: starEach [e2] k.X.env := by rfl) (hpl : (backTo pos (starEach [e2] k.X.env)).any (·.1) = false := by rfl) :
    PSx k (.Tuple elts kk tpos) (.Call (.Name "zip" p) [e, e2] [] pos) (.zip as) :=
  pi_of (pi_len (pi_zipB hg hm h.pa hs hpl)) fun σ H R ⟨ρ, Φ, fp, S, T, q⟩ => as_of as S T (by
    unfold evSrc at q
    cases ha : evAs k.c as ρ with
    | bad => rw [ha] at q; exact q
    | exc n => rw [ha] at q; exact q
    | ok x =>
      obtain ⟨args, ρ1⟩ := x
      rw [ha] at q
      intro vs Φ1 H1 fp1 G1 st S1 ra T1
      cases hf : fillD ρ1 args with
      | none =>
        replace q : PostI k Φ H σ fp R ((EV.R.ofO ((fillD ρ1 args).bind fun ds => match ds with
          | [.lst xs, .lst ys] => some (zipL xs ys)
          | [.tup xs, .tup ys] => some (zipL xs ys)
          | [.lst xs, .tup ys] => some (zipL xs ys)
          | _ => none)).bind fun xs => .ok (xs, ρ1, slots args)) := q
        rw [hf] at q
        exact q.elim
      | some ds =>
        have pn := fill_pins S1 ra (fun _ z => z) hf (slots args) fun _ z => z
        replace q : PostI k Φ H σ fp R ((EV.R.ofO ((fillD ρ1 args).bind fun ds => match ds with
          | [.lst xs, .lst ys] => some (zipL xs ys)
          | [.tup xs, .tup ys] => some (zipL xs ys)
          | [.lst xs, .tup ys] => some (zipL xs ys)
          | _ => none)).bind fun xs => .ok (xs, ρ1, slots args)) := q
        rw [hf, Option.bind_some] at q
        split at q
        · rename_i xs ys
          cases pn with
          | cons p1 pn => cases pn with
            | cons p2 pn =>
              cases pn
              obtain ⟨a, us, rfl, r1, ⟨_, sq, o1⟩ | ⟨z, _⟩⟩ := p1 xs rfl
              · obtain ⟨b, ws, rfl, r2, ⟨_, sq2, o2⟩ | ⟨z, _⟩⟩ := p2 ys rfl
                · exact ⟨a, b, us, ws, rfl, .inl ⟨sq, sq2, fun ln => q _ _ H1 fp1 [(a, .lst us), (b, .lst ws)] st.frzAll S1.frzAll T1 (by rw [zipL_length, ← r1.length]; have := ln a us (.inl sq); omega)
                    (fun p hp => by rcases List.mem_cons.mp hp with z | z; (· rw [z]; exact o1); rw [List.mem_singleton.mp z]; exact o2) (walkD_zip r1 r2)⟩⟩
                · cases z
              · cases z
        · rename_i xs ys
          cases pn with
          | cons p1 pn => cases pn with
            | cons p2 pn =>
              cases pn
              obtain ⟨a, us, rfl, r1, ⟨z, _⟩ | ⟨_, sq, o1⟩⟩ := p1 xs rfl
              · cases z
              · obtain ⟨b, ws, rfl, r2, ⟨z, _⟩ | ⟨_, sq2, o2⟩⟩ := p2 ys rfl
                · cases z
                · exact ⟨a, b, us, ws, rfl, .inr (.inl ⟨sq, sq2, fun ln => q _ _ H1 fp1 [(a, .tup us), (b, .tup ws)] st.frzAll S1.frzAll T1 (by rw [zipL_length, ← r1.length]; have := ln a us (.inr sq); omega)
                    (fun p hp => by rcases List.mem_cons.mp hp with z | z; (· rw [z]; exact o1); rw [List.mem_singleton.mp z]; exact o2) (walkD_zipT r1 r2)⟩)⟩
        · rename_i xs ys
          cases pn with
          | cons p1 pn => cases pn with
            | cons p2 pn =>
              cases pn
              obtain ⟨a, us, rfl, r1, ⟨_, sq, o1⟩ | ⟨z, _⟩⟩ := p1 xs rfl
              · obtain ⟨b, ws, rfl, r2, ⟨z, _⟩ | ⟨_, sq2, o2⟩⟩ := p2 ys rfl
                · cases z
                · exact ⟨a, b, us, ws, rfl, .inr (.inr ⟨sq, sq2, fun ln => q _ _ H1 fp1 [(a, .lst us), (b, .tup ws)] st.frzAll S1.frzAll T1 (by rw [zipL_length, ← r1.length]; have := ln a us (.inl sq); omega)
                    (fun p hp => by rcases List.mem_cons.mp hp with z | z; (· rw [z]; exact o1); rw [List.mem_singleton.mp z]; exact o2) (walkD_zipM r1 r2)⟩)⟩
              · cases z
        · exact q.elim)
/-- ranges -/
theorem rng_of {n : Nat} {as : As} {σ : L2.St} {H : Hp} {R : It → Hp → Prop} {t : List V → Hp → Prop}
    (ht : ∀ (Φ1 : Frz) (H1 : Hp) (vs : List V) (ds xs : List D), RVs k.X.K k.fa Φ1 H1 vs ds → rngL n ds = some xs → (∀ J, (∀ Φ H, WalkD k J xs Φ H []) → xs.length ≤ sizeLine → R J H1) → t vs H1) (h : TIx k (.rng n as) σ H R) : tAs k as σ H t := by
  obtain ⟨ρ, Φ, fp, S, T, q⟩ := h
  exact as_of as S T (by
    unfold evSrc at q
    cases ha : evAs k.c as ρ with
    | bad => rw [ha] at q; exact q
    | exc n => rw [ha] at q; exact q
    | ok x =>
      obtain ⟨args, ρ1⟩ := x
      rw [ha] at q
      intro vs Φ1 H1 fp1 G1 st S1 ra T1
      replace q : PostI k Φ H σ fp R ((EV.R.ofO ((fillD ρ1 args).bind (rngL n))).bind fun xs => .ok (xs, ρ1, [])) := q
      cases hf : fillD ρ1 args with
      | none => rw [hf] at q; exact q.elim
      | some ds =>
        rw [hf, Option.bind_some] at q
        cases hr : rngL n ds with
        | none => rw [hr] at q; exact q.elim
        | some xs =>
          rw [hr] at q
          exact ht (addF Φ1 G1) H1 vs ds xs (fill_ok S1 ra (fun _ z => z) hf) hr fun J w hl => q J _ H1 fp1 [] st.frzAll S1.frzAll T1 hl (fun p hp => nomatch hp) (w _ _))
theorem psx_rng1 {tg a : Expr} {as : As} {p pos : Pos} (hg : Gl k.X "range") (hm : k.X.mg "range" = none) (h : PAs k [a] as) (hs : starEach [a] k.X.env = [(false, eval a k.X.env)] := by rfl) : PSx k tg (.Call (.Name "range" p) [a] [] pos) (.rng 1 as) :=
  pi_of (pi_range1 hg hm h.pa hs) fun σ H R q => rng_of (fun Φ1 H1 vs ds xs rv hr hw => by
    unfold rngL at hr
    split at hr <;> first | (cases hr; done) | contradiction | skip
    split at hr
    · rename_i hc
      rw [Bool.and_eq_true] at hc
      cases hr
      obtain ⟨v, rfl, r⟩ := rv.one
      have h1 := of_decide_eq_true hc.1
      exact ⟨_, by rw [r.intI], h1.1, h1.2, hw _ (fun _ _ => walkD_range) (by rw [rangeL_length]; exact few_ok hc.2)⟩
    · cases hr) q
theorem psx_rng2 {tg a b : Expr} {as : As} {p pos : Pos} (hg : Gl k.X "range") (hm : k.X.mg "range" = none) (h : PAs k [a, b] as) (hs : starEach [a, b] k.X.env = [(false, eval a k.X.env), (false, eval b k.X.env)] := by rfl) (hs2 : starEach [b] k.X.env = [(false, eval b k.X.env)] := by rfl) :
    PSx k tg (.Call (.Name "range" p) [a, b] [] pos) (.rng 2 as) :=
  pi_of (pi_range2 hg hm h.pa hs hs2) fun σ H R q => rng_of (fun Φ1 H1 vs ds xs rv hr hw => by
    unfold rngL at hr
    split at hr <;> first | (cases hr; done) | contradiction | skip
    split at hr
    · rename_i hc
      rw [Bool.and_eq_true, Bool.and_eq_true] at hc
      cases hr
      obtain ⟨v, w, rfl, r, r'⟩ := rv.two
      have h1 := of_decide_eq_true hc.1.1
      have h2 := of_decide_eq_true hc.1.2
      exact ⟨_, _, by rw [r.intI, r'.intI], ⟨h1.1, h1.2, h2.1, h2.2⟩, hw _ (fun _ _ => walkD_range) (by rw [rangeL_length]; exact few_ok hc.2)⟩
    · cases hr) q
theorem psx_rng3 {tg a b c : Expr} {as : As} {p pos : Pos} (hr0 : PI k.X tg (.Call (.Name "range" p) [a, b, c] [] pos) (iRng3 (tAs k as))) : PSx k tg (.Call (.Name "range" p) [a, b, c] [] pos) (.rng 3 as) :=
  pi_of hr0 fun σ H R q => rng_of (fun Φ1 H1 vs ds xs rv hr hw => by
    unfold rngL at hr
    split at hr <;> first | (cases hr; done) | contradiction | skip
    split at hr
    · rename_i hc
      rw [Bool.and_eq_true, Bool.and_eq_true, Bool.and_eq_true] at hc
      cases hr
      obtain ⟨v, w, u, rfl, r, r', r''⟩ := rv.three
      have h1 := of_decide_eq_true hc.1.1.1
      have h2 := of_decide_eq_true hc.1.1.2
      have h3 := of_decide_eq_true hc.1.2
      subst h3
      exact ⟨_, _, _, _, by rw [r.intI, r'.intI, r''.intI], RgC.neg h1.1 h1.2 h2.1 h2.2, hw _ (fun _ _ => walkD_down) (by rw [List.length_map, List.length_range]; exact few_ok hc.2)⟩
    · cases hr) q
end
end EV
end
section
set_option linter.all false
set_option maxRecDepth 100000
/-! EvLc: targets, hidden slots, comprehensions. -/
namespace EV
open PySem PySem.W L2 PySem.Spec PyProof.Rows
/-! ### targets -/
def Tg.slots : Tg → List Nat
  | .nm i => [i]
  | .tp is => is
  | .tpT is => is
  | .tp2 i is => i :: is
  | .tp3 is i => is ++ [i]
structure TgOk (k : Kx) (g : TG) (t : Tg) : Prop where
  run : ∀ (v : V) (d : D) (σ : L2.St) (ρ ρ1 : Env) (Φ : Frz) (H : Hp) (fp : Fp) (Q : L2.St → Hp → Prop), k.RD Φ H v d → k.Sta Φ H σ ρ fp [] → bindT t d ρ = some ρ1 →
    (∀ σ1 fp1, k.Sta Φ H σ1 ρ1 fp1 [] → Stp Φ H fp Φ H fp1 [] → (∀ j, j ∉ t.slots → σ1[j]? = σ[j]?) → σ1.length = σ.length → Q σ1 H) → g v σ H Q
section
variable {k : Kx} {Φ Φ' Φ1 : Frz} {H H' H1 : Hp} {σ σ' σw : L2.St} {ρ ρ' : Env} {fp fp' fp1 : Fp} {G G' : List Addr}
theorem length_of_look {σ : L2.St} {i : Nat} {x : V} (h : σ[i]? = some (some x)) : i < σ.length := (List.getElem?_eq_some_iff.mp h).1
/-- a slot is given data -/
theorem Sta.putD {K : PySem.W.Frag} {fa : Nat → Addr} {i : Nat} {v : V} {d : D} (s : EV.Sta K fa Φ H σ ρ fp G) (hi : i < ρ.length) (r : EV.RD K fa Φ H v d) : EV.Sta K fa Φ H (σ.set i (some v)) (put ρ i (some (.d d))) (setF fp i []) G ∧ Stp Φ H fp Φ H (setF fp i []) [] := by
  have sub : ∀ a, own (setF fp i []) a → own fp a := fun a z => (own_set z).elim (fun z => nomatch z) id
  exact ⟨⟨s.env.putE hi (.d r) List.nodup_nil fun a z => (nomatch z), s.wd.sub fun a z => z.imp (sub a) id, s.gnd, fun a z q => s.gn a z (sub a q)⟩, Ext.refl, fun a z => z.elim (fun z => .inl (sub a z)) fun z => nomatch z⟩
theorem put_none (ρ : Env) (i : Nat) (x : Option E) (h : ¬ i < ρ.length) : put ρ i x = ρ := by
  induction ρ generalizing i with
  | nil => cases i <;> rfl
  | cons e r ih =>
    cases i with
    | zero => exact absurd (by simp) h
    | succ i => show e :: put r i x = e :: r; rw [ih i (by simpa using h)]
/-- .. wherever it lies -/
theorem Sta.putD' {K : PySem.W.Frag} {fa : Nat → Addr} {i : Nat} {v : V} {d : D} (s : EV.Sta K fa Φ H σ ρ fp G) (r : EV.RD K fa Φ H v d) : ∃ fp1, EV.Sta K fa Φ H (σ.set i (some v)) (put ρ i (some (.d d))) fp1 G ∧ Stp Φ H fp Φ H fp1 [] := by
  by_cases hi : i < ρ.length
  · exact ⟨_, s.putD hi r⟩
  · rw [put_none ρ i _ hi, List.set_eq_of_length_le (by rw [s.env.len]; omega)]
    exact ⟨fp, s, Stp.refl⟩
theorem tgOk_nm {i : Nat} : TgOk k (gName i) (.nm i) := ⟨fun v d σ ρ ρ1 Φ H fp Q r S hb q => by
  cases hb
  obtain ⟨fp1, S1, st⟩ := S.putD' (i := i) r
  exact q _ fp1 S1 st (fun j hj => List.getElem?_set_ne (fun e => hj (by rw [e]; exact List.mem_singleton.mpr rfl))) (List.length_set ..)⟩
/-- names in a row -/
def gNs : List Nat → TGs
  | [] => gNil
  | i :: is => gCons (gName i) (gNs is)
theorem gNs_ok : ∀ (is : List Nat) {vs : List V} {ds : List D} {σ : L2.St} {ρ ρ1 : Env} {Φ : Frz} {H : Hp} {fp : Fp} {Q : L2.St → Hp → Prop}, k.RDs Φ H vs ds → k.Sta Φ H σ ρ fp [] → bindNs is ds ρ = some ρ1 →
    (∀ σ1 fp1, k.Sta Φ H σ1 ρ1 fp1 [] → Stp Φ H fp Φ H fp1 [] → (∀ j, j ∉ is → σ1[j]? = σ[j]?) → σ1.length = σ.length → Q σ1 H) → gNs is vs σ H Q ∧ vs.length = is.length
  | [], vs, ds, σ, ρ, ρ1, Φ, H, fp, Q, r, S, hb, q => by
    cases ds with
    | nil => cases hb; cases r; exact ⟨⟨rfl, q σ fp S Stp.refl (fun _ _ => rfl) rfl⟩, rfl⟩
    | cons d ds => cases hb
  | i :: is, vs, ds, σ, ρ, ρ1, Φ, H, fp, Q, r, S, hb, q => by
    cases ds with
    | nil => cases hb
    | cons d ds =>
      cases r with
      | @cons v vs _ _ a b =>
        obtain ⟨fp1, S1, st⟩ := S.putD' (i := i) a
        have z := gNs_ok is (Q := Q) b S1 hb fun σ1 fp2 S2 st2 h1 h2 => q σ1 fp2 S2 (st.trans st2) (fun j hj => by
          rw [h1 j fun z => hj (List.mem_cons_of_mem _ z)]
          exact List.getElem?_set_ne (fun e => hj (by rw [e]; exact List.mem_cons_self))) (by rw [h2, List.length_set])
        exact ⟨⟨v, vs, rfl, z.1⟩, by rw [List.length_cons, List.length_cons, z.2]⟩
theorem pg_or {X : Cx} {e : Expr} {g g' : TG} (h : PG X e g) (h' : PG X e g') : PG X e (fun v σ H Q => g v σ H Q ∨ g' v σ H Q) :=
  ⟨fun pins s σ H v u Q I r q => q.elim (h.run pins s σ H v u Q I r) (h'.run pins s σ H v u Q I r)⟩
def gTp (K : PySem.W.Frag) (is : List Nat) : TG := fun v σ H Q => gTup K is.length (gNs is) v σ H Q ∨ gLst K is.length (gNs is) v σ H Q
theorem pg_tp {X : Cx} {es : List Expr} {kk : Nat} {pos : Pos} {is : List Nat} (hc : X.calm = true) (h : PGs X es (gNs is)) (hn : (assignEach es X.env).length = is.length := by rfl) (hst : (assignEach es X.env).findIdx? (·.1) = none := by rfl) : PG X (.Tuple es kk pos) (gTp X.K is) :=
  pg_or (pg_tup hc h hn hst) (pg_lst hc h hn hst)
theorem tgOk_tp {is : List Nat} : TgOk k (gTp k.X.K is) (.tp is) := ⟨fun v d σ ρ ρ1 Φ H fp Q r S hb q => by
  have hb : ((itemsOf d).bind fun xs => bindNs is xs ρ) = some ρ1 := hb
  cases hi : itemsOf d with
  | none => rw [hi] at hb; cases hb
  | some xs =>
    rw [hi, Option.bind_some] at hb
    cases d with
    | tup zs =>
      cases hi
      cases r with
      | tup e r =>
        have z := gNs_ok is (Q := Q) r S hb q
        exact .inl ⟨_, _, rfl, SqT.of e, z.2, z.1⟩
    | lst zs =>
      cases hi
      cases r with
      | lst _ e r =>
        have z := gNs_ok is (Q := Q) r S hb q
        exact .inr ⟨_, _, rfl, SqL.of e, z.2, z.1⟩
    | _ => cases hi⟩

/-! ### hidden slots -/
theorem wipes_length (ρ : Env) : ∀ l, (wipes ρ l).length = ρ.length
  | [] => rfl
  | i :: l => by show (put (wipes ρ l) i none).length = _; rw [put_length, wipes_length ρ l]
theorem look_ge {ρ : Env} {i : Nat} (h : ¬ i < ρ.length) : look ρ i = none := by
  cases e : look ρ i with
  | none => rfl
  | some x => exact absurd (look_lt e) h
theorem look_wipes (ρ : Env) (j : Nat) : ∀ l, look (wipes ρ l) j = if j ∈ l then none else look ρ j
  | [] => by simp [wipes]
  | i :: l => by
    show look (put (wipes ρ l) i none) j = _
    rw [look_put, wipes_length, look_wipes ρ j l]
    by_cases e : j = i
    · subst e
      rw [if_pos List.mem_cons_self]
      by_cases hl : j < ρ.length
      · rw [if_pos ⟨rfl, hl⟩]
      · rw [if_neg (fun z => hl z.2), look_ge hl]
        split <;> rfl
    · rw [if_neg (fun z => e z.1)]
      by_cases hm : j ∈ l
      · rw [if_pos hm, if_pos (List.mem_cons_of_mem _ hm)]
      · rw [if_neg hm, if_neg (fun z => (List.mem_cons.mp z).elim e hm)]
theorem restore_length (σ0 ρ : Env) : ∀ l, (restore σ0 ρ l).length = ρ.length
  | [] => rfl
  | i :: l => by show (put (restore σ0 ρ l) i _).length = _; rw [put_length, restore_length σ0 ρ l]
theorem look_restore (σ0 ρ : Env) (hl : σ0.length = ρ.length) (j : Nat) : ∀ l, look (restore σ0 ρ l) j = if j ∈ l then look σ0 j else look ρ j
  | [] => by simp [restore]
  | i :: l => by
    show look (put (restore σ0 ρ l) i (look σ0 i)) j = _
    rw [look_put, restore_length, look_restore σ0 ρ hl j l]
    by_cases e : j = i
    · subst e
      rw [if_pos List.mem_cons_self]
      by_cases h : j < ρ.length
      · rw [if_pos ⟨rfl, h⟩]
      · rw [if_neg (fun z => h z.2), look_ge h, look_ge (by rw [hl]; exact h)]
        split <;> rfl
    · rw [if_neg (fun z => e z.1)]
      by_cases hm : j ∈ l
      · rw [if_pos hm, if_pos (List.mem_cons_of_mem _ hm)]
      · rw [if_neg hm, if_neg (fun z => (List.mem_cons.mp z).elim e hm)]
def hideF (fp : Fp) (l : List Nat) : Fp := fun j => if j ∈ l then [] else fp j
theorem hideF_mem {l : List Nat} {j : Nat} {a : Addr} (h : a ∈ hideF fp l j) : j ∉ l ∧ a ∈ fp j := by
  unfold hideF at h
  by_cases e : j ∈ l
  · rw [if_pos e] at h; cases h
  · rw [if_neg e] at h; exact ⟨e, h⟩
theorem hideF_own {l : List Nat} {a : Addr} (h : own (hideF fp l) a) : own fp a := let ⟨j, z⟩ := h; ⟨j, (hideF_mem z).2⟩
theorem Sta.hide {K : PySem.W.Frag} {fa : Nat → Addr} (s : EV.Sta K fa Φ H σ ρ fp G) (l : List Nat) (hσ : ∀ j, j ∉ l → σ'[j]? = σ[j]?) (hl : σ'.length = σ.length) : EV.Sta K fa Φ H σ' (wipes ρ l) (hideF fp l) G ∧ Stp Φ H fp Φ H (hideF fp l) [] := by
  refine ⟨⟨⟨fun j e h => ?_, fun j h => ?_, fun j => ?_, fun i j a h1 h2 => s.env.inj i j a (hideF_mem h1).2 (hideF_mem h2).2, by rw [hl, wipes_length]; exact s.env.len⟩, s.wd.sub fun a z => z.imp hideF_own id, s.gnd, fun a z q => s.gn a z (hideF_own q)⟩, Ext.refl, fun a z => z.elim (fun z => .inl (hideF_own z)) fun z => nomatch z⟩
  · rw [look_wipes] at h
    by_cases e' : j ∈ l
    · rw [if_pos e'] at h; cases h
    · rw [if_neg e'] at h
      obtain ⟨v, h1, h2⟩ := s.env.at_ j e h
      exact ⟨v, by rw [hσ j e']; exact h1, by rw [show hideF fp l j = fp j from if_neg e']; exact h2⟩
  · rw [look_wipes] at h
    by_cases e' : j ∈ l
    · exact if_pos e'
    · rw [if_neg e'] at h
      rw [show hideF fp l j = fp j from if_neg e']; exact s.env.no j h
  · unfold hideF
    by_cases e' : j ∈ l
    · rw [if_pos e']; exact List.nodup_nil
    · rw [if_neg e']; exact s.env.nd j
def unhideF (fp fp' : Fp) (l : List Nat) : Fp := fun j => if j ∈ l then fp j else fp' j
theorem unhideF_own {l : List Nat} {a : Addr} (h : own (unhideF fp fp' l) a) : (∃ j ∈ l, a ∈ fp j) ∨ own fp' a := by
  obtain ⟨j, z⟩ := h
  unfold unhideF at z
  by_cases e : j ∈ l
  · rw [if_pos e] at z; exact .inl ⟨j, e, z⟩
  · rw [if_neg e] at z; exact .inr ⟨j, z⟩
theorem Sta.unhide {K : PySem.W.Frag} {fa : Nat → Addr} {σ0 : L2.St} {l : List Nat} (s : EV.Sta K fa Φ H σ0 ρ fp []) (st : Stp Φ H (hideF fp l) Φ' H' fp' G) (s' : EV.Sta K fa Φ' H' σw ρ' fp' G) (h1 : ∀ j, j ∉ l → σ'[j]? = σw[j]?) (h2 : ∀ j, j ∈ l → σ'[j]? = σ0[j]?) (hl : σ'.length = σw.length) (hl0 : σ'.length = σ0.length) :
    EV.Sta K fa Φ' H' σ' (restore ρ ρ' l) (unhideF fp fp' l) G ∧ Stp Φ H fp Φ' H' (unhideF fp fp' l) G := by
  have len : ρ.length = ρ'.length := by rw [← s.env.len, ← s'.env.len, ← hl, ← hl0]
  have w0 : Wd Φ H (own (hideF fp l)) := s.wd.sub fun a z => .inl (hideF_own z)
  -- the hidden addresses are nobody's
  have clash : ∀ a j, j ∈ l → a ∈ fp j → ¬ (own fp' a ∨ a ∈ G) := fun a j hj ha z => by
    rcases st.sub a z with z | z
    · obtain ⟨i, z⟩ := z
      obtain ⟨z1, z2⟩ := hideF_mem z
      exact z1 (s.env.inj j i a ha z2 ▸ hj)
    · have := s.wd.mu a (.inl ⟨j, ha⟩)
      rw [z] at this; exact this
  have nh : ∀ a j, j ∈ l → a ∈ fp j → ¬ own (hideF fp l) a := fun a j hj ha ⟨i, z⟩ => by
    obtain ⟨z1, z2⟩ := hideF_mem z
    exact z1 (s.env.inj j i a ha z2 ▸ hj)
  have ext : Ext (own fp) Φ H Φ' H' := st.ext.mono' fun a z => hideF_own z
  refine ⟨⟨⟨fun j e h => ?_, fun j h => ?_, fun j => ?_, fun i j a q1 q2 => ?_, by rw [restore_length, hl]; exact s'.env.len⟩, ⟨fun a z => ?_, s'.wd.tr, fun a z => ?_⟩, s'.gnd, fun a z q => ?_⟩, ext, fun a z => ?_⟩
  · rw [look_restore ρ ρ' len] at h
    by_cases e' : j ∈ l
    · rw [if_pos e'] at h
      obtain ⟨v, k1, k2⟩ := s.env.at_ j e h
      refine ⟨v, by rw [h2 j e']; exact k1, ?_⟩
      rw [show unhideF fp fp' l j = fp j from if_pos e']
      exact k2.ext w0 st.ext fun a z => nh a j e' z
    · rw [if_neg e'] at h
      obtain ⟨v, k1, k2⟩ := s'.env.at_ j e h
      exact ⟨v, by rw [h1 j e']; exact k1, by rw [show unhideF fp fp' l j = fp' j from if_neg e']; exact k2⟩
  · rw [look_restore ρ ρ' len] at h
    by_cases e' : j ∈ l
    · rw [if_pos e'] at h
      rw [show unhideF fp fp' l j = fp j from if_pos e']; exact s.env.no j h
    · rw [if_neg e'] at h
      rw [show unhideF fp fp' l j = fp' j from if_neg e']; exact s'.env.no j h
  · unfold unhideF
    by_cases e' : j ∈ l
    · rw [if_pos e']; exact s.env.nd j
    · rw [if_neg e']; exact s'.env.nd j
  · unfold unhideF at q1 q2
    by_cases e1 : i ∈ l
    · rw [if_pos e1] at q1
      by_cases e2 : j ∈ l
      · rw [if_pos e2] at q2; exact s.env.inj i j a q1 q2
      · rw [if_neg e2] at q2; exact absurd (.inl ⟨j, q2⟩) (clash a i e1 q1)
    · rw [if_neg e1] at q1
      by_cases e2 : j ∈ l
      · rw [if_pos e2] at q2; exact absurd (.inl ⟨i, q1⟩) (clash a j e2 q2)
      · rw [if_neg e2] at q2; exact s'.env.inj i j a q1 q2
  · rcases z with z | z
    · rcases unhideF_own z with ⟨j, hj, z⟩ | z
      · intro q
        rcases st.ext.back a q with q | q | q
        · exact s.wd.nf a (.inl ⟨j, z⟩) q
        · exact nh a j hj z q
        · have := s.wd.mu a (.inl ⟨j, z⟩)
          rw [q] at this; exact this
      · exact s'.wd.nf a (.inl z)
    · exact s'.wd.nf a (.inr z)
  · rcases z with z | z
    · rcases unhideF_own z with ⟨j, hj, z⟩ | z
      · have m := s.wd.mu a (.inl ⟨j, z⟩)
        cases e : H a with
        | none => rw [e] at m; exact m.elim
        | some o =>
          rw [e] at m
          rw [st.ext.keep a o e (nh a j hj z) fun ps h => by rw [h] at m; exact m]
          exact m
      · exact s'.wd.mu a (.inl z)
    · exact s'.wd.mu a (.inr z)
  · rcases unhideF_own q with ⟨j, hj, q⟩ | q
    · exact clash a j hj q (.inr z)
    · exact s'.gn a z q
  · have key : own fp' a ∨ a ∈ G → own fp a ∨ H a = none := fun z => (st.sub a z).imp hideF_own id
    rcases z with z | z
    · rcases unhideF_own z with ⟨j, hj, z⟩ | z
      · exact .inl ⟨j, z⟩
      · exact key (.inl z)
    · exact key (.inr z)
/-- a temporary is changed -/
theorem Sta.updT {K : PySem.W.Frag} {fa : Nat → Addr} {a : Addr} {o : HO} (s : EV.Sta K fa Φ H σ ρ fp G) (ha : a ∈ G) (mo : Mut (some o)) : EV.Sta K fa Φ (upd H a o) σ ρ fp G ∧ Ext (fun b => b = a) Φ H Φ (upd H a o) := by
  have x : Ext (fun b => b = a) Φ H Φ (upd H a o) := ⟨fun _ z => z, fun _ z => .inl z, fun b u e n _ => by rw [upd_ne n]; exact e, fun b e => by
    by_cases q : b = a
    · subst q; rw [upd_same] at e; cases e
    · rw [upd_ne q] at e; exact e⟩
  have w : Wd Φ H (fun b => b = a) := s.wd.sub fun b z => .inr (z ▸ ha)
  refine ⟨⟨s.env.ext w x fun b z q => s.gn a ha (q ▸ z), ⟨s.wd.nf, fun b z e => s.wd.tr b z (x.dom b e), fun b z => ?_⟩, s.gnd, s.gn⟩, x⟩
  by_cases q : b = a
  · subst q; rw [upd_same]; exact mo
  · rw [upd_ne q]; exact s.wd.mu b z
/-- what is pinned stays -/
theorem pin_stays {hid l : List Nat} {σ0 : L2.St} {P : List (Addr × HO)} (s : k.Sta Φ H σ0 ρ fp []) (hp : ∀ p ∈ P, PinOk Φ H fp hid p) (hh : ∀ i ∈ hid, i ∈ l) (x : Ext (own (hideF fp l)) Φ H Φ' H') : GP P H' := by
  intro p hm
  obtain ⟨h1, h2, h3⟩ := hp p hm
  refine x.keep _ _ h1 (fun z => ?_) h2
  have m := s.wd.mu p.1 (.inl (hideF_own z))
  have nf := s.wd.nf p.1 (.inl (hideF_own z))
  rcases h3 with h3 | h3 | ⟨i, hi, h3⟩
  · rw [h1] at m; exact h3 m
  · exact nf h3
  · obtain ⟨j, z⟩ := z
    obtain ⟨z1, z2⟩ := hideF_mem z
    exact z1 (s.env.inj i j _ h3 z2 ▸ hh i hi)

/-! ### comprehensions -/
/-- a comprehension's block -/
abbrev kb (k : Kx) : Kx := { k with wx := fun _ _ _ => False }
abbrev kblk (k : Kx) (s : Shared) (H : Hp) (scope : Scope) (C : Addr) (cl : List (Str × Addr)) (fp : List Addr) : Kx := { k with X := k.X.blk s H scope (compEnvC scope cl C k.X.env) fp, wx := fun _ _ _ => False }
theorem wipe_get (σ : L2.St) (j : Nat) : ∀ l : List Nat, (wipe σ l)[j]? = if j ∈ l then (if j < σ.length then some none else none) else σ[j]?
  | [] => by simp [wipe]
  | i :: l => by
    show ((wipe σ l).set i none)[j]? = _
    by_cases e : j = i
    · subst e
      rw [if_pos List.mem_cons_self]
      by_cases h : j < σ.length
      · rw [List.getElem?_set_self (by rw [wipe_length]; exact h), if_pos h]
      · rw [if_neg h]; exact List.getElem?_eq_none (by rw [List.length_set, wipe_length]; omega)
    · rw [List.getElem?_set_ne (Ne.symm e), wipe_get σ j l]
      by_cases hm : j ∈ l
      · rw [if_pos hm, if_pos (List.mem_cons_of_mem _ hm)]
      · rw [if_neg hm, if_neg (fun z => (List.mem_cons.mp z).elim e hm)]
theorem wipe_eq {σ1 σ2 : L2.St} {l : List Nat} (h : ∀ j, j ∉ l → σ1[j]? = σ2[j]?) (hl : σ1.length = σ2.length) : wipe σ1 l = wipe σ2 l := by
  apply List.ext_getElem?
  intro j
  rw [wipe_get, wipe_get, hl]
  by_cases e : j ∈ l
  · rw [if_pos e, if_pos e]
  · rw [if_neg e, if_neg e]; exact h j e
theorem lcL_exc {f : D → Env → R (Option D × Env)} : ∀ {xs : List D} {ρ : Env} {n : Nat}, lcL f xs ρ ≠ .exc n
  | [], ρ, n, h => by cases h
  | x :: xs, ρ, n, h => by
    unfold lcL at h
    split at h
    · split at h <;> cases h
    · cases h
/-- one turn's function -/
def lcF (c : Calls) (own : List Nat) (tg : Tg) (t e : X) : D → Env → R (Option D × Env) := fun x ρ => (R.ofO (bindT tg x ρ)).bind fun ρ1 => (isB (evX c t ρ1)).bind fun q => if q.1 then (evX c e q.2).bind fun z => .ok (some z.1.frz, wipes z.2 own) else .ok (none, wipes q.2 own)
theorem R.bind_ok {α β : Type} {r : R α} {f : α → R β} {b : β} (h : r.bind f = .ok b) : ∃ a, r = .ok a ∧ f a = .ok b := by
  cases r with
  | ok a => exact ⟨a, rfl, h⟩
  | exc n => cases h
  | bad => cases h
theorem R.ofO_ok {α : Type} {o : Option α} {a : α} (h : R.ofO o = .ok a) : o = some a := by
  cases o with
  | none => cases h
  | some b => cases h; rfl
theorem tt_of {x : X} {b : Bool} {ρ1 : Env} {Q : Bool → Hp → Prop} (S : k.Sta Φ H σ ρ fp []) (T : k.Tb H) (h : isB (evX k.c x ρ) = .ok (b, ρ1)) (q : ∀ Φ' H' fp', Stp Φ H fp Φ' H' fp' [] → k.Sta Φ' H' σ ρ1 fp' [] → k.Tb H' → Q b H') : TT k x σ H Q :=
  ⟨ρ, Φ, fp, S, T, by rw [h]; exact q⟩
theorem tx_of {x : X} {e : E} {ρ1 : Env} {Q : VK} (S : k.Sta Φ H σ ρ fp []) (T : k.Tb H) (h : evX k.c x ρ = .ok (e, ρ1)) (q : ∀ v Φ' H' fp' G', Stp Φ H fp Φ' H' fp' G' → k.Sta Φ' H' σ ρ1 fp' G' → k.RE Φ' H' v e G' → k.Tb H' → Q v H') : TX k x σ H Q :=
  ⟨ρ, Φ, fp, S, T, by rw [h]; exact q⟩
/-- what holds ahead of a turn: the new list at D, what it holds so far -/
structure LcInv (k : Kx) (D0 : Addr) (σw : L2.St) (Φ1 : Frz) (H1 : Hp) (fpw : Fp) (f : D → Env → R (Option D × Env)) (xs zs : List D) (ρe : Env) (i : Nat) (H : Hp) : Prop where
  ex : ∃ Φ ρ fp done, k.Sta Φ H σw ρ fp [D0] ∧ Stp Φ1 H1 fpw Φ H fp [D0] ∧ k.RE Φ H (.ref D0) (.l done) [D0] ∧ k.Tb H ∧ done.length ≤ i ∧ ∃ r, lcL f (xs.drop i) ρ = .ok (r, ρe) ∧ zs = done ++ r
/-- the new list gets an item -/
theorem lc_add {D0 : Addr} {done : List D} {v : V} {d : D} (S : k.Sta Φ H σ ρ fp [D0]) (re : k.RE Φ H (.ref D0) (.l done) [D0]) (rd : k.RD Φ H v d) : ∃ acc, H D0 = some (.lst acc) ∧ acc.length = done.length ∧ k.Sta Φ (upd H D0 (.lst (acc ++ [v]))) σ ρ fp [D0] ∧ Stp Φ H fp Φ H fp [] ∧ k.RE Φ (upd H D0 (.lst (acc ++ [v]))) (.ref D0) (.l (done ++ [d])) [D0] ∧
    Ext (fun b => b = D0) Φ H Φ (upd H D0 (.lst (acc ++ [v]))) := by
  obtain ⟨a, vs, e, _, h1, h2⟩ := re.lI
  cases e
  obtain ⟨S', x⟩ := S.updT (o := .lst (vs ++ [v])) List.mem_cons_self trivial
  have w : Wd Φ H (fun b => b = D0) := S.wd.sub fun b z => .inr (by rw [z]; exact List.mem_cons_self)
  exact ⟨vs, h1, h2.length, S', Stp.refl, .l upd_same ((h2.ext w x).append (.cons (rd.ext w x) .nil)), x⟩
theorem Tb.upd {a : Addr} {o o' : HO} (T : k.Tb H) (h : H a = some o') (n1 : ∀ ps, o' ≠ .tbl ps) (n2 : ∀ f, o' ≠ .ext f) : k.Tb (upd H a o) := by
  intro p hp
  obtain ⟨ps, h1, h2, h3⟩ := T p hp
  refine ⟨ps, ?_, h2, fun pos cv hc => ?_⟩
  · rw [upd_ne fun z => by rw [z, h] at h1; exact n1 _ (Option.some.inj h1)]
    exact h1
  · obtain ⟨c, e1, e2⟩ := h3 pos cv hc
    exact ⟨c, e1, by rw [upd_ne fun z => by rw [z, h] at e2; exact n2 _ (Option.some.inj e2)]; exact e2⟩
theorem lc_turns {tg : Tg} {g : TG} {t y : X} {src : Src} {vs : List Nat} {n : Nat} {σ : L2.St} {H : Hp} {Q : VK} (go : TgOk k g tg) (hs : ∀ i ∈ tg.slots, i ∈ vs) (h : TX k (.lc vs tg src t y) σ H Q) :
    tLc (TIx k src) g (TT (kb k) t) (TX (kb k) y) vs σ H Q := by
  obtain ⟨ρ, Φ, fp, S, T, q⟩ := h
  refine ⟨ρ, Φ, fp, S, T, ?_⟩
  unfold evX at q
  cases hx : evSrc k.c src ρ with
  | bad => rw [hx] at q; exact q
  | exc n => rw [hx] at q; exact q
  | ok p =>
    obtain ⟨xs, ρ1, hid⟩ := p
    rw [hx] at q
    intro J Φ1 H1 fp1 P st S1 T1 hlen pins W D0 hD
    replace q : PostX k Φ H σ fp Q ((lcL (lcF k.c vs tg t y) xs (wipes ρ1 (vs ++ hid))).bind fun z => .ok (.l z.1, restore ρ1 z.2 (vs ++ hid))) := q
    cases hL : lcL (lcF k.c vs tg t y) xs (wipes ρ1 (vs ++ hid)) with
    | bad => rw [hL] at q; exact q.elim
    | exc n => exact absurd hL lcL_exc
    | ok z =>
      obtain ⟨zs, ρe⟩ := z
      rw [hL] at q
      replace q : PostX k Φ H σ fp Q (.ok (.l zs, restore ρ1 ρe (vs ++ hid))) := q
      -- the hidden slots
      have hw : ∀ j, j ∉ vs ++ hid → (wipe σ vs)[j]? = σ[j]? := fun j hj => by rw [wipe_get, if_neg fun z => hj (List.mem_append_left _ z)]
      obtain ⟨Sh, sth⟩ := S1.hide (σ' := wipe σ vs) (vs ++ hid) hw (wipe_length σ vs)
      have frD : Fresh H1 (upd H1 D0 (.lst [])) [D0] := Fresh.one hD trivial
      obtain ⟨Sd, std⟩ := Sh.fresh frD
      have w1 : L2.Walk J xs.length (GP P) (fun i H x H' => J.yld i H x H') := ⟨W.goes, W.stops, fun i H x H' _ _ y => y⟩
      refine lc_it w1 (LcInv k D0 (wipe σ vs) Φ1 H1 (hideF fp1 (vs ++ hid)) (lcF k.c vs tg t y) xs zs ρe) ⟨Φ1, _, _, [], Sd, std, .l upd_same .nil, T1.ext frD.keep, Nat.zero_le _, zs, hL, rfl⟩ (fun i H hi ⟨Φi, ρi, fpi, dn, Si, sti, _⟩ => ?_) ?_ (fun H ⟨Φi, ρi, fpi, dn, Si, sti, rei, Ti, hl, r, hr, hz⟩ => ?_)
      · exact pin_stays S1 pins (fun i hi => List.mem_append_right _ hi) sti.ext
      · rintro i x H H' hi ⟨Φi, ρi, fpi, dn, Si, sti, rei, Ti, hl, r, hr, hz⟩ y0
        have gp := pin_stays S1 pins (fun i hi => List.mem_append_right _ hi) sti.ext
        obtain ⟨fr, d, hd, rd⟩ := W.yields i H x H' Φi hi gp (Ext.stay (S1.wd.sub fun a z => .inl (hideF_own z)) sti.ext) y0
        have hdrop : xs.drop i = d :: xs.drop (i + 1) := by
          rw [List.drop_eq_getElem_cons hi]
          have : xs[i] = d := by
            have := List.getElem?_eq_getElem hi
            rw [hd] at this
            exact (Option.some.inj this).symm
          rw [this]
        rw [hdrop] at hr
        unfold lcL at hr
        cases hf : lcF k.c vs tg t y d ρi with
        | bad => rw [hf] at hr; cases hr
        | exc n => rw [hf] at hr; cases hr
        | ok p =>
          obtain ⟨o, ρ2⟩ := p
          rw [hf] at hr
          replace hr : (match lcL (lcF k.c vs tg t y) (xs.drop (i + 1)) ρ2 with
            | .ok (r, ρ2) => EV.R.ok (o.toList ++ r, ρ2)
            | _ => .bad) = .ok (r, ρe) := hr
          cases hr2 : lcL (lcF k.c vs tg t y) (xs.drop (i + 1)) ρ2 with
          | bad => rw [hr2] at hr; cases hr
          | exc n => rw [hr2] at hr; cases hr
          | ok p2 =>
            obtain ⟨r2, ρe'⟩ := p2
            rw [hr2] at hr
            cases hr
            unfold lcF at hf
            obtain ⟨ρa, hb0, hf⟩ := R.bind_ok hf
            have hb := R.ofO_ok hb0
            obtain ⟨⟨b, ρb⟩, hc, hf⟩ := R.bind_ok hf
            -- the item has come
            obtain ⟨Sf, stf⟩ := Si.temp.fresh fr
            have Tf : k.Tb H' := Ti.ext fr.keep
            refine go.run x d (wipe σ vs) ρi ρa Φi H' fpi _ rd Sf hb fun σ2 fp2 S2 st2 hj hlen2 => ⟨?_, ?_⟩
            · rw [wipe_eq (σ2 := wipe σ vs) (fun j hj' => hj j fun z => hj' (hs j z)) hlen2]
              exact wipe_eq (fun j hj' => by rw [wipe_get, if_neg hj']) (wipe_length σ vs)
            · have hsig : ∀ j, j ∉ vs → (wipe σ vs)[j]? = σ2[j]? := fun j hj' => (hj j fun z => hj' (hs j z)).symm
              refine tt_of (k := kb k) S2 Tf hc fun Φ3 H3 fp3 st3 S3 T3 => ?_
              have stA : Stp Φi H fpi Φ3 H3 fp3 [] := (stf.trans st2).trans st3
              cases b with
              | false =>
                rw [if_neg Bool.false_ne_true]
                cases hf
                have S3' := Si.frame stA S3
                obtain ⟨Sw, stw⟩ := S3'.hide (σ' := wipe σ vs) vs hsig hlen2.symm
                have reW : k.RE Φ3 H3 (.ref D0) (.l dn) [D0] := RE.wait Si stA rei fun _ z => z
                refine ⟨Φ3, _, _, dn, Sw, ⟨(sti.trans stA).ext, fun a z => ?_⟩, reW, T3, Nat.le_succ_of_le hl, r2, hr2, by rw [hz]; rfl⟩
                rcases z with z | z
                · exact (sti.trans stA).sub a (.inl (hideF_own z))
                · rw [List.mem_singleton.mp z]; exact .inr hD
              | true =>
                rw [if_pos rfl]
                obtain ⟨⟨e4, ρ4⟩, he, hf⟩ := R.bind_ok hf
                cases hf
                refine tx_of (k := kb k) S3 T3 he fun v Φ4 H4 fp4 G4 st4 S4 re4 T4 => ?_
                have stB : Stp Φi H fpi Φ4 H4 fp4 G4 := stA.trans st4
                have S5 : k.Sta (addF Φ4 G4) H4 σ2 ρ4 fp4 [D0] := (Si.frame stB S4).frzT
                have re5 : k.RE (addF Φ4 G4) H4 (.ref D0) (.l dn) [D0] := (RE.wait Si stB rei fun _ z => z).stay fun _ z => .inl z
                have rd4 : k.RD (addF Φ4 G4) H4 v e4.frz := re4.frz (fun _ z => .inl z) fun a z => .inr z
                obtain ⟨acc, ha, hlen', S6, _, re6, x6⟩ := lc_add S5 re5 rd4
                obtain ⟨Sw, stw⟩ := S6.hide (σ' := wipe σ vs) vs hsig hlen2.symm
                have stC := sti.trans stB.frzAll
                refine ⟨acc, ha, by omega, addF Φ4 G4, _, _, dn ++ [e4.frz], Sw, ⟨stC.ext.trans x6 fun a z => .inr (by rw [z]; exact hD), fun a z => ?_⟩, re6, Tb.upd T4 ha (fun _ z => by cases z) (fun _ z => by cases z), by rw [List.length_append]; simp; omega, r2, hr2, by rw [hz]; simp⟩
                rcases z with z | z
                · exact stC.sub a (.inl (hideF_own z))
                · rw [List.mem_singleton.mp z]; exact .inr hD
      · rw [List.drop_eq_nil_of_le (Nat.le_refl _)] at hr
        cases hr
        rw [List.append_nil] at hz
        subst hz
        obtain ⟨Su, stu⟩ := S1.unhide (σ' := σ) sti Si (fun j hj => (hw j hj).symm) (fun _ _ => rfl) (wipe_length σ vs).symm rfl
        exact q (.ref D0) Φi H _ [D0] (st.trans stu) Su rei Ti
/-- no test -/
theorem pts_none {X : Cx} : PTs X [] (TT (kb k) (.cst (.bl true))) :=
  ⟨fun pins s σ H Q I ⟨ρ, Φ, fp, S, T, q⟩ => pts_nil.run pins s σ H Q I (q Φ H fp Stp.refl S T)⟩
theorem px_lc {elt tg iter : Expr} {ifs : List Expr} {scope : Scope} {pos : Pos} {g : TG} {n : Nat} {src : Src} {tgI : Tg} {t y : X} (ow : List (Str × Nat)) (ok : KOk k n) (hN : k.X.N.Nodup) (hi : PSx k tg iter src) (bo : blkC k.X.N k.X.env.scope scope ow = true) (go : TgOk k g tgI) (hs : ∀ i ∈ tgI.slots, i ∈ ow.map (·.2))
    (hg : ∀ (s : Shared) (H : Hp) (C : Addr) (cl : List (Str × Addr)) (fp : List Addr), PG (kblk k s H scope C cl fp).X tg g) (ht : ∀ (s : Shared) (H : Hp) (C : Addr) (cl : List (Str × Addr)) (fp : List Addr), PTs (kblk k s H scope C cl fp).X ifs (TT (kb k) t))
    (he : ∀ (s : Shared) (H : Hp) (C : Addr) (cl : List (Str × Addr)) (fp : List Addr), PX (kblk k s H scope C cl fp) elt y) (hf : ∀ x, foldedSetIterable iter k.X.env x = pure x := by intro _; rfl) :
    PX k (.ListComp elt [⟨tg, iter, ifs, 0⟩] scope pos) (.lc (ow.map (·.2)) tgI src t y) :=
  pe_of (pe_lc ok.calm hN hi (blkOk_by bo) hg ht (fun s H C cl fp => he s H C cl fp) hf) fun σ H Q q => lc_turns (n := n) go hs q
theorem pts1 {s : Shared} {H : Hp} {scope : Scope} {C : Addr} {cl : List (Str × Addr)} {fp : List Addr} {c : Expr} {t : X} (h : PTX (kblk k s H scope C cl fp) c t) : PTs (kblk k s H scope C cl fp).X [c] (TT (kb k) t) := pts_one h
/-- a block's own context -/
theorem KOk.blk {n : Nat} (ok : KOk k n) (s : Shared) (H : Hp) (scope : Scope) (C : Addr) (cl : List (Str × Addr)) (fp : List Addr) : KOk (kblk k s H scope C cl fp) n where
  calm := ok.calm
  hu := ok.hu
  hr := ok.hr
  pass := fun pins σ H s e s' I c => by
    obtain ⟨_, _, _, _, _, _, _, _, _, _, _, _, h⟩ := c
    exact h.elim
  fns := ok.fns
theorem TOk.blk {n : Nat} (ok : TOk k n) (s : Shared) (H : Hp) (scope : Scope) (C : Addr) (cl : List (Str × Addr)) (fp : List Addr) : TOk (kblk k s H scope C cl fp) n := ⟨ok.fns2, ok.deep⟩
end
end EV
end
section
set_option linter.all false
set_option maxRecDepth 100000
/-! EvLc2: comprehensions over two sources. -/
namespace EV
open PySem PySem.W L2 PySem.Spec PyProof.Rows
/-- from a state with temporaries G (which are ours, too) to a later one -/
structure Stq (Φ : Frz) (H : Hp) (fp : Fp) (G : List Addr) (Φ' : Frz) (H' : Hp) (fp' : Fp) (G' : List Addr) : Prop where
  ext : Ext (fun a => own fp a ∨ a ∈ G) Φ H Φ' H'
  sub : ∀ a, own fp' a ∨ a ∈ G' → (own fp a ∨ a ∈ G) ∨ H a = none
section
variable {k : Kx} {Φ Φ' Φ'' Φ1 : Frz} {H H' H'' H1 : Hp} {σ σ' σw : L2.St} {ρ ρ' : Env} {fp fp' fp'' fp1 : Fp} {G G' G'' : List Addr}
theorem Stq.refl : Stq Φ H fp G Φ H fp G := ⟨Ext.refl, fun _ h => .inl h⟩
theorem Stp.q (st : Stp Φ H fp Φ' H' fp' G') : Stq Φ H fp G Φ' H' fp' (G' ++ G) where
  ext := st.ext.mono' fun a z => .inl z
  sub := fun a z => by
    rcases z with z | z
    · exact (st.sub a (.inl z)).imp .inl id
    · rcases List.mem_append.mp z with z | z
      · exact (st.sub a (.inr z)).imp .inl id
      · exact .inl (.inr z)
theorem Stq.trans (a : Stq Φ H fp G Φ' H' fp' G') (b : Stq Φ' H' fp' G' Φ'' H'' fp'' G'') : Stq Φ H fp G Φ'' H'' fp'' G'' where
  ext := a.ext.trans b.ext fun x h => a.sub x h
  sub := fun x h => by
    rcases b.sub x h with h | h
    · exact a.sub x h
    · exact .inr (a.ext.dom x h)
theorem Stp.thenQ (a : Stp Φ H fp Φ' H' fp' G') (b : Stq Φ' H' fp' G' Φ'' H'' fp'' G'') : Stp Φ H fp Φ'' H'' fp'' G'' where
  ext := a.ext.trans b.ext fun x h => a.sub x h
  sub := fun x h => by
    rcases b.sub x h with h | h
    · exact a.sub x h
    · exact .inr (a.ext.dom x h)
theorem Stq.ofExt (x : Ext (fun a => a ∈ G) Φ H Φ' H') : Stq Φ H fp G Φ' H' fp G := ⟨x.mono' fun a z => .inr z, fun a z => .inl z⟩
/-- the frozen ones go -/
theorem Stq.fz (a : Stq Φ H fp G Φ' H' fp' (G' ++ G'')) : Stq Φ H fp G (addF Φ' G') H' fp' G'' where
  ext := ⟨fun x z => .inl (a.ext.mono x z), fun x z => by
    rcases z with z | z
    · exact a.ext.back x z
    · rcases a.sub x (.inr (List.mem_append_left _ z)) with h | h
      · exact .inr (.inl h)
      · exact .inr (.inr h), a.ext.keep, a.ext.dom⟩
  sub := fun x z => a.sub x (z.imp id (List.mem_append_right _))
theorem Sta.unhideQ {K : PySem.W.Frag} {fa : Nat → Addr} {σ0 : L2.St} {l : List Nat} (s : EV.Sta K fa Φ H σ0 ρ fp G) (st : Stq Φ H (hideF fp l) G Φ' H' fp' G') (s' : EV.Sta K fa Φ' H' σw ρ' fp' G') (h1 : ∀ j, j ∉ l → σ'[j]? = σw[j]?) (h2 : ∀ j, j ∈ l → σ'[j]? = σ0[j]?) (hl : σ'.length = σw.length) (hl0 : σ'.length = σ0.length) :
    EV.Sta K fa Φ' H' σ' (restore ρ ρ' l) (unhideF fp fp' l) G' ∧ Stq Φ H fp G Φ' H' (unhideF fp fp' l) G' := by
  have lenE : ρ.length = ρ'.length := by rw [← s.env.len, ← s'.env.len, ← hl, ← hl0]
  have wQ : Wd Φ H (fun a => own (hideF fp l) a ∨ a ∈ G) := s.wd.sub fun a z => z.imp hideF_own id
  have apart : ∀ a j, j ∈ l → a ∈ fp j → ¬ (own (hideF fp l) a ∨ a ∈ G) := fun a j hj ha z => by
    rcases z with ⟨i, z⟩ | z
    · obtain ⟨z1, z2⟩ := hideF_mem z
      exact z1 (s.env.inj j i a ha z2 ▸ hj)
    · exact s.gn a z ⟨j, ha⟩
  have there : ∀ a j, a ∈ fp j → H a ≠ none := fun a j ha e => by
    have m := s.wd.mu a (.inl ⟨j, ha⟩)
    rw [e] at m; exact m
  have clashQ : ∀ a j, j ∈ l → a ∈ fp j → ¬ (own fp' a ∨ a ∈ G') := fun a j hj ha z => (st.sub a z).elim (apart a j hj ha) (there a j ha)
  refine ⟨⟨⟨fun j e h => ?_, fun j h => ?_, fun j => ?_, fun i j a q1 q2 => ?_, by rw [restore_length, hl]; exact s'.env.len⟩, ⟨fun a z => ?_, s'.wd.tr, fun a z => ?_⟩, s'.gnd, fun a z q => ?_⟩, st.ext.mono' fun a z => z.imp hideF_own id, fun a z => ?_⟩
  · rw [look_restore ρ ρ' lenE] at h
    by_cases hm : j ∈ l
    · rw [if_pos hm] at h
      obtain ⟨v, k1, k2⟩ := s.env.at_ j e h
      refine ⟨v, by rw [h2 j hm]; exact k1, ?_⟩
      rw [show unhideF fp fp' l j = fp j from if_pos hm]
      exact k2.ext wQ st.ext fun a z => apart a j hm z
    · rw [if_neg hm] at h
      obtain ⟨v, k1, k2⟩ := s'.env.at_ j e h
      exact ⟨v, by rw [h1 j hm]; exact k1, by rw [show unhideF fp fp' l j = fp' j from if_neg hm]; exact k2⟩
  · rw [look_restore ρ ρ' lenE] at h
    by_cases hm : j ∈ l
    · rw [if_pos hm] at h
      rw [show unhideF fp fp' l j = fp j from if_pos hm]; exact s.env.no j h
    · rw [if_neg hm] at h
      rw [show unhideF fp fp' l j = fp' j from if_neg hm]; exact s'.env.no j h
  · unfold unhideF
    split
    · exact s.env.nd j
    · exact s'.env.nd j
  · unfold unhideF at q1 q2
    by_cases m1 : i ∈ l <;> by_cases m2 : j ∈ l <;> simp only [m1, m2, if_true, if_false] at q1 q2
    · exact s.env.inj i j a q1 q2
    · exact absurd (.inl ⟨j, q2⟩) (clashQ a i m1 q1)
    · exact absurd (.inl ⟨i, q1⟩) (clashQ a j m2 q2)
    · exact s'.env.inj i j a q1 q2
  · intro q
    rcases z with z | z
    · rcases unhideF_own z with ⟨j, hj, z⟩ | z
      · rcases st.ext.back a q with q | q | q
        · exact s.wd.nf a (.inl ⟨j, z⟩) q
        · exact apart a j hj z q
        · exact there a j z q
      · exact s'.wd.nf a (.inl z) q
    · exact s'.wd.nf a (.inr z) q
  · rcases z with z | z
    · rcases unhideF_own z with ⟨j, hj, z⟩ | z
      · have m := s.wd.mu a (.inl ⟨j, z⟩)
        cases e : H a with
        | none => exact absurd e (there a j z)
        | some o =>
          rw [e] at m
          rw [st.ext.keep a o e (apart a j hj z) fun ps h => by rw [h] at m; exact m]
          exact m
      · exact s'.wd.mu a (.inl z)
    · exact s'.wd.mu a (.inr z)
  · rcases unhideF_own q with ⟨j, hj, q⟩ | q
    · exact clashQ a j hj q (.inr z)
    · exact s'.gn a z q
  · have key : own fp' a ∨ a ∈ G' → (own fp a ∨ a ∈ G) ∨ H a = none := fun z => (st.sub a z).imp (Or.imp hideF_own id) id
    rcases z with z | z
    · rcases unhideF_own z with ⟨j, hj, z⟩ | z
      · exact .inl (.inl ⟨j, z⟩)
      · exact key (.inl z)
    · exact key (.inr z)
theorem pin_staysQ {hid l : List Nat} {σ0 : L2.St} {P : List (Addr × HO)} (s : k.Sta Φ H σ0 ρ fp G) (hp : ∀ p ∈ P, PinOk Φ H fp hid p) (hh : ∀ i ∈ hid, i ∈ l) (x : Ext (fun a => own (hideF fp l) a ∨ a ∈ G) Φ H Φ' H') : GP P H' := by
  intro p hm
  obtain ⟨h1, h2, h3⟩ := hp p hm
  refine x.keep _ _ h1 (fun z => ?_) h2
  have m := s.wd.mu p.1 (z.imp hideF_own id)
  have nf := s.wd.nf p.1 (z.imp hideF_own id)
  rcases h3 with h3 | h3 | ⟨i, hi, h3⟩
  · rw [h1] at m; exact h3 m
  · exact nf h3
  · rcases z with ⟨j, z⟩ | z
    · obtain ⟨z1, z2⟩ := hideF_mem z
      exact z1 (s.env.inj i j _ h3 z2 ▸ hh i hi)
    · exact s.gn _ z ⟨i, h3⟩
theorem Sta.hideQ {K : PySem.W.Frag} {fa : Nat → Addr} (s : EV.Sta K fa Φ H σ ρ fp G) (l : List Nat) (hσ : ∀ j, j ∉ l → σ'[j]? = σ[j]?) (hl : σ'.length = σ.length) : EV.Sta K fa Φ H σ' (wipes ρ l) (hideF fp l) G ∧ Stq Φ H fp G Φ H (hideF fp l) G := by
  obtain ⟨a, b⟩ := s.hide l hσ hl
  exact ⟨a, Ext.refl, fun x z => .inl (z.imp hideF_own id)⟩
/-- ahead of a turn of the outer loop -/
def Lc2Inv (k : Kx) (D0 : Addr) (σw : L2.St) (Φ1 : Frz) (H1 : Hp) (fpw : Fp) (f : D → Env → R (List D × Env)) (xs zs : List D) (ρe : Env) (i : Nat) (H : Hp) : Prop :=
  ∃ Φ ρ fp done, k.Sta Φ H σw ρ fp [D0] ∧ Stp Φ1 H1 fpw Φ H fp [D0] ∧ k.RE Φ H (.ref D0) (.l done) [D0] ∧ k.Tb H ∧ ∃ r, lcL2 f (xs.drop i) ρ = .ok (r, ρe) ∧ zs = done ++ r
/-- .. of the inner one -/
def LcJ (k : Kx) (D0 : Addr) (σv : L2.St) (Φ4 : Frz) (H4 : Hp) (fpv : Fp) (f : D → Env → R (Option D × Env)) (xs ys dn : List D) (ρe : Env) (j : Nat) (H : Hp) : Prop :=
  ∃ Φ ρ fp d1, k.Sta Φ H σv ρ fp [D0] ∧ Stq Φ4 H4 fpv [D0] Φ H fp [D0] ∧ k.RE Φ H (.ref D0) (.l (dn ++ d1)) [D0] ∧ k.Tb H ∧ ∃ r, lcL f (xs.drop j) ρ = .ok (r, ρe) ∧ ys = d1 ++ r
theorem drop_get {xs : List D} {i : Nat} {d : D} (hi : i < xs.length) (hd : xs[i]? = some d) : xs.drop i = d :: xs.drop (i + 1) := by
  rw [List.drop_eq_getElem_cons hi]
  have : xs[i] = d := by
    have q := List.getElem?_eq_getElem hi
    rw [hd] at q
    exact (Option.some.inj q).symm
  rw [this]
theorem lcL_cons_ok {f : D → Env → R (Option D × Env)} {x : D} {xs : List D} {ρ ρe : Env} {r : List D} (h : lcL f (x :: xs) ρ = .ok (r, ρe)) : ∃ o ρ2 r2, f x ρ = .ok (o, ρ2) ∧ lcL f xs ρ2 = .ok (r2, ρe) ∧ r = o.toList ++ r2 := by
  unfold lcL at h
  split at h
  · rename_i o ρ2 e
    split at h
    · rename_i r2 ρ3 e2
      injection h with h; injection h with h3 h4
      subst h3 h4
      exact ⟨o, ρ2, r2, e, e2, rfl⟩
    · cases h
  · cases h
theorem lcL2_cons_ok {f : D → Env → R (List D × Env)} {x : D} {xs : List D} {ρ ρe : Env} {r : List D} (h : lcL2 f (x :: xs) ρ = .ok (r, ρe)) : ∃ o ρ2 r2, f x ρ = .ok (o, ρ2) ∧ lcL2 f xs ρ2 = .ok (r2, ρe) ∧ r = o ++ r2 := by
  unfold lcL2 at h
  split at h
  · rename_i o ρ2 e
    split at h
    · rename_i r2 ρ3 e2
      injection h with h; injection h with h3 h4
      subst h3 h4
      exact ⟨o, ρ2, r2, e, e2, rfl⟩
    · cases h
  · cases h
theorem lcL2_exc {f : D → Env → R (List D × Env)} {xs : List D} {ρ : Env} {n : Nat} : lcL2 f xs ρ ≠ .exc n := by
  cases xs with
  | nil => intro h; cases h
  | cons x r =>
    intro h
    unfold lcL2 at h
    split at h
    · split at h <;> cases h
    · cases h
/-- one turn of the outer loop -/
def lcF2 (c : Calls) (vs vs1 : List Nat) (tg : Tg) (t : X) (tg1 : Tg) (src1 : Src) (t1 y : X) : D → Env → R (List D × Env) := fun x ρ => (R.ofO (bindT tg x ρ)).bind fun ρ1 => (isB (evX c t ρ1)).bind fun q => if q.1 then (evSrc c src1 q.2).bind fun r2 =>
  (lcL (lcF c vs1 tg1 t1 y) r2.1 (wipes r2.2.1 (vs1 ++ r2.2.2))).bind fun z => .ok (z.1, wipes (restore r2.2.1 z.2 (vs1 ++ r2.2.2)) vs) else .ok ([], wipes q.2 vs)

theorem lc2_inner {D0 : Addr} {Φ4 : Frz} {H4 : Hp} {σ2 : L2.St} {ρc ρd : Env} {fp4 : Fp} {vs1 : List Nat} {tg1 : Tg} {g1 : TG} {t1 y : X} {n1 : Nat} {J1 : It} {xs1 ys dn : List D} {hid1 : List Nat} {P1 : List (Addr × HO)} {Nx : Hp → Prop} {N : Nat}
    (go1 : TgOk k g1 tg1) (hs1 : ∀ i ∈ tg1.slots, i ∈ vs1) (S : k.Sta Φ4 H4 σ2 ρc fp4 [D0]) (T : k.Tb H4) (re : k.RE Φ4 H4 (.ref D0) (.l dn) [D0]) (pins : ∀ p ∈ P1, PinOk Φ4 H4 fp4 hid1 p) (W : WalkD k J1 xs1 Φ4 H4 P1)
    (hL : lcL (lcF k.c vs1 tg1 t1 y) xs1 (wipes ρc (vs1 ++ hid1)) = .ok (ys, ρd)) (hN : (dn ++ ys).length ≤ N) (hfw : few N = true)
    (fin : ∀ Φ H fp, k.Sta Φ H σ2 (restore ρc ρd (vs1 ++ hid1)) fp [D0] → Stq Φ4 H4 fp4 [D0] Φ H fp [D0] → k.RE Φ H (.ref D0) (.l (dn ++ ys)) [D0] → k.Tb H → Nx H) :
    ∃ W1 : Nat → Nat → Hp → Prop, (∃ m, W1 0 m H4) ∧ ∀ j m H, W1 j m H →
      (J1.stop j H ∧ Nx H) ∨ (J1.go j H ∧ ∃ Nx1 : Hp → Prop, (∀ H', Nx1 H' → ∃ m', m' < m ∧ W1 (j + 1) m' H') ∧ ∀ x H', J1.yld j H x H' → g1 x (wipe σ2 vs1) H' fun σ3 H5 => wipe σ3 vs1 = wipe σ2 vs1 ∧ TT (kb k) t1 σ3 H5 fun b H6 =>
        if b = true then TX (kb k) y σ3 H6 fun z H7 => ∃ acc, H7 D0 = some (.lst acc) ∧ acc.length < sizeLine ∧ Nx1 (upd H7 D0 (.lst (acc ++ [z]))) else Nx1 H6) := by
  have hw : ∀ j, j ∉ vs1 ++ hid1 → (wipe σ2 vs1)[j]? = σ2[j]? := fun j hj => by rw [wipe_get, if_neg fun z => hj (List.mem_append_left _ z)]
  obtain ⟨Sh, sth⟩ := S.hideQ (σ' := wipe σ2 vs1) (vs1 ++ hid1) hw (wipe_length σ2 vs1)
  refine ⟨fun j m H => m = xs1.length - j ∧ j ≤ xs1.length ∧ LcJ k D0 (wipe σ2 vs1) Φ4 H4 (hideF fp4 (vs1 ++ hid1)) (lcF k.c vs1 tg1 t1 y) xs1 ys dn ρd j H, ⟨_, rfl, Nat.zero_le _, Φ4, _, _, [], Sh, Stq.refl, by rw [List.append_nil]; exact re, T, ys, hL, rfl⟩, ?_⟩
  rintro j m H ⟨rfl, hj, Φi, ρi, fpi, d1, Si, sti, rei, Ti, r, hr, hz⟩
  have gp : GP P1 H := pin_staysQ S pins (fun i hi => List.mem_append_right _ hi) sti.ext
  by_cases hlt : j < xs1.length
  · refine .inr ⟨W.goes j H hlt gp, LcJ k D0 (wipe σ2 vs1) Φ4 H4 (hideF fp4 (vs1 ++ hid1)) (lcF k.c vs1 tg1 t1 y) xs1 ys dn ρd (j + 1), fun H' p => ⟨xs1.length - (j + 1), by omega, rfl, hlt, p⟩, fun x H' y0 => ?_⟩
    have wQ : Wd Φ4 H4 (fun a => own (hideF fp4 (vs1 ++ hid1)) a ∨ a ∈ [D0]) := S.wd.sub fun a z => z.imp hideF_own id
    obtain ⟨fr, d, hd, rd⟩ := W.yields j H x H' Φi hlt gp (Ext.stay wQ sti.ext) y0
    rw [drop_get hlt hd] at hr
    obtain ⟨o, ρ2, r2, hf, hr2, rfl⟩ := lcL_cons_ok hr
    unfold lcF at hf
    obtain ⟨ρa, hb0, hf⟩ := R.bind_ok hf
    have hb := R.ofO_ok hb0
    obtain ⟨⟨b, ρb⟩, hc, hf⟩ := R.bind_ok hf
    obtain ⟨Sf, stf⟩ := Si.temp.fresh fr
    have Tf : k.Tb H' := Ti.ext fr.keep
    refine go1.run x d (wipe σ2 vs1) ρi ρa Φi H' fpi _ rd Sf hb fun σ3 fp3 S3 st3 hj3 hlen3 => ⟨?_, ?_⟩
    · rw [wipe_eq (σ2 := wipe σ2 vs1) (fun q hq => hj3 q fun z => hq (hs1 q z)) hlen3]
      exact wipe_eq (fun q hq => by rw [wipe_get, if_neg hq]) (wipe_length σ2 vs1)
    · have hsig : ∀ q, q ∉ vs1 → (wipe σ2 vs1)[q]? = σ3[q]? := fun q hq => (hj3 q fun z => hq (hs1 q z)).symm
      refine tt_of (k := kb k) S3 Tf hc fun Φ5 H5 fp5 st5 S5 T5 => ?_
      have stA : Stp Φi H fpi Φ5 H5 fp5 [] := (stf.trans st3).trans st5
      cases b with
      | false =>
        rw [if_neg Bool.false_ne_true]
        cases hf
        have S5' := Si.frame stA S5
        obtain ⟨Sw, stw⟩ := S5'.hideQ (σ' := wipe σ2 vs1) vs1 hsig hlen3.symm
        have reW : k.RE Φ5 H5 (.ref D0) (.l (dn ++ d1)) [D0] := RE.wait Si stA rei fun _ z => z
        exact ⟨Φ5, _, _, d1, Sw, (sti.trans stA.q).trans stw, reW, T5, r2, hr2, by rw [hz]; rfl⟩
      | true =>
        rw [if_pos rfl]
        obtain ⟨⟨e6, ρ6⟩, he, hf⟩ := R.bind_ok hf
        cases hf
        refine tx_of (k := kb k) S5 T5 he fun v Φ6 H6 fp6 G6 st6 S6 re6 T6 => ?_
        have stB : Stp Φi H fpi Φ6 H6 fp6 G6 := stA.trans st6
        have S7 : k.Sta (addF Φ6 G6) H6 σ3 ρ6 fp6 [D0] := (Si.frame stB S6).frzT
        have stq : Stq Φi H fpi [D0] (addF Φ6 G6) H6 fp6 [D0] := stB.q.fz
        have re7 : k.RE (addF Φ6 G6) H6 (.ref D0) (.l (dn ++ d1)) [D0] := (RE.wait Si stB rei fun _ z => z).stay fun _ z => .inl z
        have rd7 : k.RD (addF Φ6 G6) H6 v e6.frz := re6.frz (fun _ z => .inl z) fun a z => .inr z
        obtain ⟨acc, ha, hlen', S8, _, re8, x8⟩ := lc_add S7 re7 rd7
        obtain ⟨Sw, stw⟩ := S8.hideQ (σ' := wipe σ2 vs1) vs1 hsig hlen3.symm
        have x8' : Stq (addF Φ6 G6) H6 fp6 [D0] (addF Φ6 G6) (upd H6 D0 (.lst (acc ++ [v]))) fp6 [D0] := Stq.ofExt (x8.mono' fun a z => by rw [z]; exact List.mem_cons_self)
        have hl3 : acc.length < N := by
          rw [hlen']
          have e1 : ys.length = d1.length + (1 + r2.length) := by rw [hz]; simp; omega
          simp only [List.length_append] at hN ⊢
          omega
        have hszl := few_lt hfw
        refine ⟨acc, ha, by omega, addF Φ6 G6, _, _, d1 ++ [e6.frz], Sw, ((sti.trans stq).trans x8').trans stw, by rw [← List.append_assoc]; exact re8, Tb.upd T6 ha (fun _ z => by cases z) (fun _ z => by cases z), r2, hr2, by rw [hz]; simp⟩
  · have e : j = xs1.length := by omega
    subst e
    refine .inl ⟨W.stops H gp, ?_⟩
    rw [List.drop_eq_nil_of_le (Nat.le_refl _)] at hr
    cases hr
    rw [List.append_nil] at hz
    subst hz
    obtain ⟨Su, stu⟩ := S.unhideQ (σ' := σ2) sti Si (fun j hj => (hw j hj).symm) (fun _ _ => rfl) (wipe_length σ2 vs1).symm rfl
    exact fin _ _ _ Su stu rei Ti
theorem lc2_turns {tg tg1 : Tg} {g g1 : TG} {t y t1 : X} {src src1 : Src} {vs vs1 : List Nat} {σ : L2.St} {H : Hp} {Q : VK} (go : TgOk k g tg) (go1 : TgOk k g1 tg1) (hs : ∀ i ∈ tg.slots, i ∈ vs) (hs1 : ∀ i ∈ tg1.slots, i ∈ vs1) (h : TX k (.lc2 vs vs1 tg src t tg1 src1 t1 y) σ H Q) :
    tLc2 (TIx k src) g (TT (kb k) t) (TIx (kb k) src1) g1 (TT (kb k) t1) (TX (kb k) y) vs vs1 σ H Q := by
  obtain ⟨ρ, Φ, fp, S, T, q⟩ := h
  refine ⟨ρ, Φ, fp, S, T, ?_⟩
  unfold evX at q
  cases hx : evSrc k.c src ρ with
  | bad => rw [hx] at q; exact q
  | exc n => rw [hx] at q; exact q
  | ok p =>
    obtain ⟨xs, ρ1, hid⟩ := p
    rw [hx] at q
    intro J Φ1 H1 fp1 P st S1 T1 hlen pins W D0 hD
    replace q : PostX k Φ H σ fp Q ((lcL2 (lcF2 k.c vs vs1 tg t tg1 src1 t1 y) xs (wipes ρ1 (vs ++ hid))).bind fun z => if few z.1.length then .ok (.l z.1, restore ρ1 z.2 (vs ++ hid)) else .bad) := q
    cases hL : lcL2 (lcF2 k.c vs vs1 tg t tg1 src1 t1 y) xs (wipes ρ1 (vs ++ hid)) with
    | bad => rw [hL] at q; exact q.elim
    | exc n => exact absurd hL lcL2_exc
    | ok z =>
      obtain ⟨zs, ρe⟩ := z
      rw [hL] at q
      replace q : PostX k Φ H σ fp Q (if few zs.length then .ok (.l zs, restore ρ1 ρe (vs ++ hid)) else .bad) := q
      split at q
      rotate_left
      · exact q.elim
      rename_i hfw
      have hw : ∀ j, j ∉ vs ++ hid → (wipe σ vs)[j]? = σ[j]? := fun j hj => by rw [wipe_get, if_neg fun z => hj (List.mem_append_left _ z)]
      obtain ⟨Sh, sth⟩ := S1.hide (σ' := wipe σ vs) (vs ++ hid) hw (wipe_length σ vs)
      have frD : Fresh H1 (upd H1 D0 (.lst [])) [D0] := Fresh.one hD trivial
      obtain ⟨Sd, std⟩ := Sh.fresh frD
      refine ⟨fun i m H => m = xs.length - i ∧ i ≤ xs.length ∧ Lc2Inv k D0 (wipe σ vs) Φ1 H1 (hideF fp1 (vs ++ hid)) (lcF2 k.c vs vs1 tg t tg1 src1 t1 y) xs zs ρe i H, ⟨_, rfl, Nat.zero_le _, Φ1, _, _, [], Sd, std, .l upd_same .nil, T1.ext frD.keep, zs, hL, rfl⟩, ?_⟩
      rintro i m H ⟨rfl, hi, Φi, ρi, fpi, dn, Si, sti, rei, Ti, r, hr, hz⟩
      have gp : GP P H := pin_stays S1 pins (fun i hi => List.mem_append_right _ hi) sti.ext
      by_cases hlt : i < xs.length
      · refine .inr ⟨W.goes i H hlt gp, Lc2Inv k D0 (wipe σ vs) Φ1 H1 (hideF fp1 (vs ++ hid)) (lcF2 k.c vs vs1 tg t tg1 src1 t1 y) xs zs ρe (i + 1), fun H' p => ⟨xs.length - (i + 1), by omega, rfl, hlt, p⟩, fun x H' y0 => ?_⟩
        obtain ⟨fr, d, hd, rd⟩ := W.yields i H x H' Φi hlt gp (Ext.stay (S1.wd.sub fun a z => .inl (hideF_own z)) sti.ext) y0
        rw [drop_get hlt hd] at hr
        obtain ⟨o, ρ2, r2, hf, hr2, rfl⟩ := lcL2_cons_ok hr
        unfold lcF2 at hf
        obtain ⟨ρa, hb0, hf⟩ := R.bind_ok hf
        have hb := R.ofO_ok hb0
        obtain ⟨⟨b, ρb⟩, hc, hf⟩ := R.bind_ok hf
        obtain ⟨Sf, stf⟩ := Si.temp.fresh fr
        have Tf : k.Tb H' := Ti.ext fr.keep
        refine go.run x d (wipe σ vs) ρi ρa Φi H' fpi _ rd Sf hb fun σ2 fp2 S2 st2 hj2 hlen2 => ⟨?_, ?_⟩
        · rw [wipe_eq (σ2 := wipe σ vs) (fun q hq => hj2 q fun z => hq (hs q z)) hlen2]
          exact wipe_eq (fun q hq => by rw [wipe_get, if_neg hq]) (wipe_length σ vs)
        · have hsig : ∀ q, q ∉ vs → (wipe σ vs)[q]? = σ2[q]? := fun q hq => (hj2 q fun z => hq (hs q z)).symm
          refine tt_of (k := kb k) S2 Tf hc fun Φ3 H3 fp3 st3 S3 T3 => ?_
          have stA : Stp Φi H fpi Φ3 H3 fp3 [] := (stf.trans st2).trans st3
          cases b with
          | false =>
            rw [if_neg Bool.false_ne_true]
            cases hf
            have S3' := Si.frame stA S3
            obtain ⟨Sw, stw⟩ := S3'.hideQ (σ' := wipe σ vs) vs hsig hlen2.symm
            have reW : k.RE Φ3 H3 (.ref D0) (.l dn) [D0] := RE.wait Si stA rei fun _ z => z
            exact ⟨Φ3, _, _, dn, Sw, sti.thenQ (stA.q.trans stw), reW, T3, r2, hr2, by rw [hz]; rfl⟩
          | true =>
            rw [if_pos rfl]
            obtain ⟨⟨xs1, ρc, hid1⟩, he, hf⟩ := R.bind_ok hf
            obtain ⟨⟨ys, ρd⟩, hin, hf⟩ := R.bind_ok hf
            cases hf
            refine ⟨ρb, Φ3, fp3, S3, T3, ?_⟩
            show PostI (kb k) Φ3 H3 σ2 fp3 _ (evSrc k.c src1 ρb)
            rw [he]
            intro J1 Φ4 H4 fp4 P1 st4 S4 T4 hlen1 pins1 W1
            have stB : Stp Φi H fpi Φ4 H4 fp4 [] := stA.trans st4
            have S4' := Si.frame stB S4
            have re4 : k.RE Φ4 H4 (.ref D0) (.l dn) [D0] := RE.wait Si stB rei fun _ z => z
            refine lc2_inner (N := zs.length) (n1 := 0) go1 hs1 S4' T4 re4 pins1 ⟨W1.goes, W1.stops, W1.yields⟩ hin (by rw [hz]; simp) hfw fun Φ5 H5 fp5 S5 st5 re5 T5 => ?_
            obtain ⟨Sw, stw⟩ := S5.hideQ (σ' := wipe σ vs) vs hsig hlen2.symm
            exact ⟨Φ5, _, _, dn ++ ys, Sw, sti.thenQ ((stB.q.trans st5).trans stw), re5, T5, r2, hr2, by rw [hz]; simp⟩
      · have e : i = xs.length := by omega
        subst e
        refine .inl ⟨W.stops H gp, ?_⟩
        rw [List.drop_eq_nil_of_le (Nat.le_refl _)] at hr
        cases hr
        rw [List.append_nil] at hz
        subst hz
        obtain ⟨Su, stu⟩ := S1.unhide (σ' := σ) sti Si (fun j hj => (hw j hj).symm) (fun _ _ => rfl) (wipe_length σ vs).symm rfl
        exact q (.ref D0) Φi H _ [D0] (st.trans stu) Su rei Ti

theorem tix_blk {s : Shared} {H0 : Hp} {scope : Scope} {C : Addr} {cl : List (Str × Addr)} {fp0 : List Addr} {src : Src} {σ : L2.St} {H : Hp} {R : It → Hp → Prop} (h : TIx (kb k) src σ H R) : TIx (kblk k s H0 scope C cl fp0) src σ H R := by
  obtain ⟨ρ, Φ, fp, S, T, q⟩ := h
  refine ⟨ρ, Φ, fp, S, T, ?_⟩
  show PostI (kblk k s H0 scope C cl fp0) Φ H σ fp R (evSrc k.c src ρ)
  replace q : PostI (kb k) Φ H σ fp R (evSrc k.c src ρ) := q
  cases hx : evSrc k.c src ρ with
  | bad => rw [hx] at q; exact q
  | exc n => rw [hx] at q; exact q
  | ok p =>
    rw [hx] at q
    intro J Φ1 H1 fp1 P st S1 T1 hl pins W
    exact q J Φ1 H1 fp1 P st S1 T1 hl pins ⟨W.goes, W.stops, W.yields⟩
theorem px_lc2 {elt tg iter tg1 iter1 : Expr} {ifs ifs1 : List Expr} {scope : Scope} {pos : Pos} {g g1 : TG} {n : Nat} {src src1 : Src} {tgI tgI1 : Tg} {t t1 y : X} (ow : List (Str × Nat)) (vs1 : List Nat) (ok : KOk k n) (hN : k.X.N.Nodup) (hi : PSx k tg iter src) (bo : blkC k.X.N k.X.env.scope scope ow = true) (go : TgOk k g tgI) (go1 : TgOk k g1 tgI1) (hs : ∀ i ∈ tgI.slots, i ∈ ow.map (·.2)) (hs1 : ∀ i ∈ tgI1.slots, i ∈ vs1) (hv : ∀ i ∈ vs1, i ∈ ow.map (·.2))
    (hg : ∀ (s : Shared) (H : Hp) (C : Addr) (cl : List (Str × Addr)) (fp : List Addr), PG (kblk k s H scope C cl fp).X tg g) (ht : ∀ (s : Shared) (H : Hp) (C : Addr) (cl : List (Str × Addr)) (fp : List Addr), PTs (kblk k s H scope C cl fp).X ifs (TT (kb k) t))
    (hi1 : ∀ (s : Shared) (H : Hp) (C : Addr) (cl : List (Str × Addr)) (fp : List Addr), PSx (kblk k s H scope C cl fp) tg1 iter1 src1)
    (hg1 : ∀ (s : Shared) (H : Hp) (C : Addr) (cl : List (Str × Addr)) (fp : List Addr), PG (kblk k s H scope C cl fp).X tg1 g1) (ht1 : ∀ (s : Shared) (H : Hp) (C : Addr) (cl : List (Str × Addr)) (fp : List Addr), PTs (kblk k s H scope C cl fp).X ifs1 (TT (kb k) t1))
    (he : ∀ (s : Shared) (H : Hp) (C : Addr) (cl : List (Str × Addr)) (fp : List Addr), PX (kblk k s H scope C cl fp) elt y) (hf : ∀ x, foldedSetIterable iter k.X.env x = pure x := by intro _; rfl) (hf1 : ∀ env x, foldedSetIterable iter1 env x = pure x := by intro _ _; rfl) :
    PX k (.ListComp elt [⟨tg, iter, ifs, 0⟩, ⟨tg1, iter1, ifs1, 0⟩] scope pos) (.lc2 (ow.map (·.2)) vs1 tgI src t tgI1 src1 t1 y) :=
  pe_of (pe_lc2 ok.calm hN hi (blkOk_by bo) hv hg ht (fun s H C cl fp => pi_of (hi1 s H C cl fp) fun σ H R h => tix_blk h) hg1 ht1 (fun s H C cl fp => he s H C cl fp) hf hf1) fun σ H Q q => lc2_turns go go1 hs hs1 q
end
end EV
end
section
set_option linter.all false
set_option maxRecDepth 100000
/-! EvStmt: statements. -/
namespace EV
open PySem PySem.W L2 PySem.Spec PyProof.Rows
def Kept (W : List Nat) (σ σ' : L2.St) : Prop := (∀ j, j ∉ W → σ'[j]? = σ[j]?) ∧ σ'.length = σ.length
theorem Kept.refl {W : List Nat} {σ : L2.St} : Kept W σ σ := ⟨fun _ _ => rfl, rfl⟩
theorem Kept.trans {W : List Nat} {a b c : L2.St} (h : Kept W a b) (h' : Kept W b c) : Kept W a c := ⟨fun j hj => (h'.1 j hj).trans (h.1 j hj), h'.2.trans h.2⟩
theorem Kept.mono {W W' : List Nat} {a b : L2.St} (h : Kept W a b) (hw : ∀ j ∈ W, j ∈ W') : Kept W' a b := ⟨fun j hj => h.1 j fun z => hj (hw j z), h.2⟩
theorem Kept.set {W : List Nat} {σ : L2.St} {i : Nat} {x : Option V} (h : i ∈ W) : Kept W σ (σ.set i x) := ⟨fun j hj => List.getElem?_set_ne (fun (e : i = j) => hj (e ▸ h)), List.length_set ..⟩
def PostS (k : Kx) (W : List Nat) (Φ : Frz) (H : Hp) (σ : L2.St) (fp : Fp) (D : Ends) : SR → Prop
  | .nx ρ' => ∀ σ' Φ' H' fp', Stp Φ H fp Φ' H' fp' [] → k.Sta Φ' H' σ' ρ' fp' [] → k.Tb H' → Kept W σ σ' → D.nx σ' H'
  | .bk ρ' => ∀ σ' Φ' H' fp', Stp Φ H fp Φ' H' fp' [] → k.Sta Φ' H' σ' ρ' fp' [] → k.Tb H' → Kept W σ σ' → D.bk σ' H'
  | .ct ρ' => ∀ σ' Φ' H' fp', Stp Φ H fp Φ' H' fp' [] → k.Sta Φ' H' σ' ρ' fp' [] → k.Tb H' → Kept W σ σ' → D.ct σ' H'
  | .rt e ρ' => ∀ v σ' Φ' H' fp' G', Stp Φ H fp Φ' H' fp' G' → k.Sta Φ' H' σ' ρ' fp' G' → k.RE Φ' H' v e G' → k.Tb H' → Kept W σ σ' → D.rt v H'
  | .exc n => PostE k Φ H fp n
  | .bad => False
def TSx (k : Kx) (W : List Nat) (s : S) : TS := fun D σ H => ∃ ρ Φ fp, k.Sta Φ H σ ρ fp [] ∧ k.Tb H ∧ PostS k W Φ H σ fp D (evS k.c s ρ)
def TSsx (k : Kx) (W : List Nat) (s : Ss) : TS := fun D σ H => ∃ ρ Φ fp, k.Sta Φ H σ ρ fp [] ∧ k.Tb H ∧ PostS k W Φ H σ fp D (evSs k.c s ρ)
abbrev PSt (k : Kx) (W : List Nat) (st : Stmt) (s : S) : Prop := PS k.X st (TSx k W s)
abbrev PSts (k : Kx) (W : List Nat) (st : List Stmt) (s : Ss) : Prop := PSs k.X st (TSsx k W s)
theorem ps_of {X : Cx} {e : Stmt} {t t' : TS} (h : PS X e t) (hh : ∀ D σ H, t' D σ H → t D σ H) : PS X e t' := ⟨fun pins s σ H D I q => h.run pins s σ H D I (hh D σ H q)⟩
theorem pss_of {X : Cx} {e : List Stmt} {t t' : TS} (h : PSs X e t) (hh : ∀ D σ H, t' D σ H → t D σ H) : PSs X e t' := ⟨fun pins s σ H D I q => h.run pins s σ H D I (hh D σ H q)⟩
/-- where statements run -/
structure SOk (k : Kx) (n : Nat) : Prop extends KOk k n where
  takes : L2N.Takes k.X (fun cls d _ H => k.wx cls d H)
  own : PassesOwn (model k.X.prog k.X.w) k.X.A k.X.env k.X.xe
  nd : k.X.N.Nodup
  tok : TOk k n
section
variable {k : Kx} {n : Nat} {W W' : List Nat} {Φ Φ' Φ1 : Frz} {H H' H1 : Hp} {σ σ' : L2.St} {ρ ρ' : Env} {fp fp' fp1 : Fp} {G G' : List Addr}
theorem PostS.later {D : Ends} (st : Stp Φ H fp Φ' H' fp' G) (hk : Kept W σ σ') : ∀ {r : SR}, PostS k W Φ H σ fp D r → PostS k W Φ' H' σ' fp' D r
  | .nx ρ, q => fun σ2 Φ2 H2 fp2 a b c d => q σ2 Φ2 H2 fp2 (st.trans a) b c (hk.trans d)
  | .bk ρ, q => fun σ2 Φ2 H2 fp2 a b c d => q σ2 Φ2 H2 fp2 (st.trans a) b c (hk.trans d)
  | .ct ρ, q => fun σ2 Φ2 H2 fp2 a b c d => q σ2 Φ2 H2 fp2 (st.trans a) b c (hk.trans d)
  | .rt e ρ, q => fun v σ2 Φ2 H2 fp2 G2 a b r c d => q v σ2 Φ2 H2 fp2 G2 (st.trans a) b r c (hk.trans d)
  | .exc n, q => exc_later st q
  | .bad, q => q
theorem PostS.more {D : Ends} (hw : ∀ j ∈ W, j ∈ W') : ∀ {r : SR}, PostS k W' Φ H σ fp D r → PostS k W Φ H σ fp D r
  | .nx ρ, q => fun σ2 Φ2 H2 fp2 a b c d => q σ2 Φ2 H2 fp2 a b c (d.mono hw)
  | .bk ρ, q => fun σ2 Φ2 H2 fp2 a b c d => q σ2 Φ2 H2 fp2 a b c (d.mono hw)
  | .ct ρ, q => fun σ2 Φ2 H2 fp2 a b c d => q σ2 Φ2 H2 fp2 a b c (d.mono hw)
  | .rt e ρ, q => fun v σ2 Φ2 H2 fp2 G2 a b r c d => q v σ2 Φ2 H2 fp2 G2 a b r c (d.mono hw)
  | .exc n, q => q
  | .bad, q => q
theorem psts_more {st : List Stmt} {s : Ss} (h : PSts k W st s) (hw : ∀ j ∈ W, j ∈ W') : PSts k W' st s := pss_of h fun D σ H ⟨ρ, Φ, fp, S, T, q⟩ => ⟨ρ, Φ, fp, S, T, q.more hw⟩
/-- an expression's value is used by a statement -/
theorem tx_then {x : X} {f : E × Env → SR} {D : Ends} {Q : VK} (S : k.Sta Φ H σ ρ fp []) (T : k.Tb H) (q : PostS k W Φ H σ fp D ((evX k.c x ρ).toS f))
    (h : ∀ e ρ1 v Φ1 H1 fp1 G1, evX k.c x ρ = .ok (e, ρ1) → Stp Φ H fp Φ1 H1 fp1 G1 → k.Sta Φ1 H1 σ ρ1 fp1 G1 → k.RE Φ1 H1 v e G1 → k.Tb H1 → PostS k W Φ H σ fp D (f (e, ρ1)) → Q v H1) : TX k x σ H Q := by
  refine ⟨ρ, Φ, fp, S, T, ?_⟩
  cases hx : evX k.c x ρ with
  | bad => rw [hx] at q; exact q
  | exc n => rw [hx] at q; exact q
  | ok p =>
    rw [hx] at q
    obtain ⟨e, ρ1⟩ := p
    exact fun v Φ1 H1 fp1 G1 st S1 re T1 => h e ρ1 v Φ1 H1 fp1 G1 hx st S1 re T1 q

/-! ### rows of statements -/
theorem psts_nil : PSts k W [] .nil := pss_of pss_nil fun D σ H ⟨ρ, Φ, fp, S, T, q⟩ => q σ Φ H fp Stp.refl S T Kept.refl
theorem psts_cons {st : Stmt} {sts : List Stmt} {s : S} {r : Ss} (h : PSt k W st s) (h2 : PSts k W sts r) : PSts k W (st :: sts) (.cons s r) :=
  pss_of (pss_cons h h2) fun D σ H ⟨ρ, Φ, fp, S, T, q⟩ => ⟨ρ, Φ, fp, S, T, by
    unfold evSs at q
    cases hs : evS k.c s ρ with
    | nx ρ1 =>
      rw [hs] at q
      exact fun σ1 Φ1 H1 fp1 st S1 T1 kp => ⟨ρ1, Φ1, fp1, S1, T1, PostS.later (r := evSs k.c r ρ1) st kp q⟩
    | bk ρ1 => rw [hs] at q; exact q
    | ct ρ1 => rw [hs] at q; exact q
    | rt e ρ1 => rw [hs] at q; exact q
    | exc n => rw [hs] at q; exact q
    | bad => rw [hs] at q; exact q⟩

/-! ### plain statements -/
theorem pst_pass {pos : Pos} : PSt k W (.Pass pos) .pass := ps_of ps_pass fun D σ H ⟨ρ, Φ, fp, S, T, q⟩ => q σ Φ H fp Stp.refl S T Kept.refl
theorem pst_brk {pos : Pos} : PSt k W (.Break pos) .brk := ps_of ps_break fun D σ H ⟨ρ, Φ, fp, S, T, q⟩ => q σ Φ H fp Stp.refl S T Kept.refl
theorem pst_cont {pos : Pos} : PSt k W (.Continue pos) .cont := ps_of ps_continue fun D σ H ⟨ρ, Φ, fp, S, T, q⟩ => q σ Φ H fp Stp.refl S T Kept.refl
theorem pst_retN {pos : Pos} : PSt k W (.Return none pos) .retN := ps_of ps_retN fun D σ H ⟨ρ, Φ, fp, S, T, q⟩ => q .non σ Φ H fp [] Stp.refl S (.d .non) T Kept.refl
theorem pst_ret {e : Expr} {x : X} {pos : Pos} (h : PX k e x) : PSt k W (.Return (some e) pos) (.ret x) :=
  ps_of (ps_ret h) fun D σ H ⟨ρ, Φ, fp, S, T, q⟩ => by
    unfold evS at q
    exact tx_then S T q fun e ρ1 v Φ1 H1 fp1 G1 _ st S1 re T1 q => q v σ Φ1 H1 fp1 G1 st S1 re T1 Kept.refl
theorem pst_expr {e : Expr} {x : X} {pos : Pos} (h : PX k e x) (hs : swapsWith e none pos.line k.X.env = pure false := by rfl) : PSt k W (.Expr e pos) (.expr x) :=
  ps_of (ps_expr h hs) fun D σ H ⟨ρ, Φ, fp, S, T, q⟩ => by
    unfold evS at q
    exact tx_then S T q fun e ρ1 v Φ1 H1 fp1 G1 _ st S1 re T1 q => q σ Φ1 H1 fp1 (st.less fun _ z => nomatch z) S1.temp T1 Kept.refl
theorem Sta.putE {i : Nat} {v : V} {e : E} (s : k.Sta Φ H σ ρ fp G) (re : k.RE Φ H v e G) : ∃ fp1, k.Sta Φ H (σ.set i (some v)) (put ρ i (some e)) fp1 [] ∧ ∀ a, own fp1 a → own fp a ∨ a ∈ G := by
  by_cases hi : i < ρ.length
  · have sub : ∀ a, own (setF fp i G) a → own fp a ∨ a ∈ G := fun a z => (own_set z).symm
    refine ⟨setF fp i G, ⟨s.env.putE hi re s.gnd fun a z j q => absurd ⟨j, q⟩ (s.gn a z), s.wd.sub fun a z => z.elim (sub a) fun z => (nomatch z), List.nodup_nil, fun a z => nomatch z⟩, sub⟩
  · refine ⟨fp, ?_, fun a z => .inl z⟩
    rw [put_none ρ i _ hi, List.set_eq_of_length_le (by rw [s.env.len]; omega)]
    exact s.temp
theorem Stp.into {H0 : Hp} {Φ0 : Frz} {fp0 : Fp} (st : Stp Φ0 H0 fp0 Φ H fp G) (h : ∀ a, own fp1 a → own fp a ∨ a ∈ G) : Stp Φ0 H0 fp0 Φ H fp1 [] := ⟨st.ext, fun a z => z.elim (fun z => st.sub a (h a z)) fun z => nomatch z⟩
/-- an expression's value goes to a slot -/
theorem asg_tx {i : Nat} {x : X} {D : Ends} (hw : i ∈ W) (h : TSx k W (.asg i x) D σ H) : tAsg (TX k x) (gName i) D σ H := by
  obtain ⟨ρ, Φ, fp, S, T, q⟩ := h
  unfold evS at q
  exact tx_then S T q fun e ρ1 v Φ1 H1 fp1 G1 _ st S1 re T1 q => by
    obtain ⟨fp2, S2, sub⟩ := Sta.putE (i := i) S1 re
    exact q _ Φ1 H1 fp2 (st.into sub) S2 T1 (Kept.set hw)
theorem pst_asg {i : Nat} {y : Str} {e : Expr} {x : X} {p pos : Pos} (ok : SOk k n) (hi : k.X.N[i]? = some y) (hy : k.X.env.scope.names.lookup y = some .local) (h : PX k e x) (hw : i ∈ W := by decide) (hs : swapsWith e (some (.Name y p)) pos.line k.X.env = pure false := by rfl) : PSt k W (.Assign [.Name y p] e pos) (.asg i x) :=
  ps_of (ps_set ok.nd hi (.inl hy) h hs (.inr hy)) fun D σ H q => asg_tx hw q
theorem pst_asgC {i : Nat} {y : Str} {e : Expr} {x : X} {p pos : Pos} (ok : SOk k n) (hi : k.X.N[i]? = some y) (hy : k.X.env.scope.names.lookup y = some .cell) (h : PX k e x) (hw : i ∈ W := by decide) (hs : swapsWith e (some (.Name y p)) pos.line k.X.env = pure false := by rfl) (hf : k.X.fn y = true := by rfl) : PSt k W (.Assign [.Name y p] e pos) (.asg i x) :=
  ps_of (ps_set ok.nd hi (.inr hy) h hs (.inl hf)) fun D σ H q => asg_tx hw q
/-- name = [..]: the comprehension stores by itself -/
theorem pst_asgLc {i : Nat} {y : Str} {py spos : Pos} {elt tg iter : Expr} {ifs : List Expr} {scope : Scope} {pos : Pos} {g : TG} {src : Src} {tgI : Tg} {t z : X} (ow : List (Str × Nat)) (ok : SOk k n) (hi0 : k.X.N[i]? = some y) (hy : k.X.env.scope.names.lookup y = some .local) (hi : PSx k tg iter src) (bo : blkC k.X.N k.X.env.scope scope ow = true) (go : TgOk k g tgI) (hs : ∀ i ∈ tgI.slots, i ∈ ow.map (·.2))
    (hg : ∀ (s : Shared) (H : Hp) (C : Addr) (cl : List (Str × Addr)) (fp : List Addr), PG (kblk k s H scope C cl fp).X tg g) (ht : ∀ (s : Shared) (H : Hp) (C : Addr) (cl : List (Str × Addr)) (fp : List Addr), PTs (kblk k s H scope C cl fp).X ifs (TT (kb k) t))
    (he : ∀ (s : Shared) (H : Hp) (C : Addr) (cl : List (Str × Addr)) (fp : List Addr), PX (kblk k s H scope C cl fp) elt z) (hsw : swapsWith (.ListComp elt [⟨tg, iter, ifs, 0⟩] scope pos) (some (.Name y py)) spos.line k.X.env = pure true) (hw : i ∈ W := by decide) (hf : ∀ x, foldedSetIterable iter k.X.env x = pure x := by intro _; rfl) :
    PSt k W (.Assign [.Name y py] (.ListComp elt [⟨tg, iter, ifs, 0⟩] scope pos) spos) (.asg i (.lc (ow.map (·.2)) tgI src t z)) :=
  ps_of (ps_setLc ok.calm ok.nd hi0 hy hsw hi (blkOk_by bo) hg ht (fun s H C cl fp => he s H C cl fp) hf) fun D σ H q => lc_turns (n := n) go hs (asg_tx hw q)
/-- names = e -/
theorem pst_unp {tg e : Expr} {x : X} {pos : Pos} {g : TG} {tgI : Tg} (h : PX k e x) (hg : PG k.X tg g) (go : TgOk k g tgI) (hw : ∀ i ∈ tgI.slots, i ∈ W := by decide) (hs : swapsWithSole [tg] e pos.line k.X.env = pure false := by rfl) (hsw : swappedStores [tg] e k.X.env = pure none := by rfl)
    (h1 : (assignEach [tg] k.X.env).map (·.2) = [assign tg k.X.env] := by rfl) : PSt k W (.Assign [tg] e pos) (.unp tgI x) :=
  ps_of (ps_asg h hg hs hsw h1) fun D σ H ⟨ρ, Φ, fp, S, T, q⟩ => by
    unfold evS at q
    exact tx_then S T q fun e ρ1 v Φ1 H1 fp1 G1 _ st S1 re T1 q => by
      replace q : PostS k W Φ H σ fp D (match bindT tgI e.frz ρ1 with
        | some ρ1 => .nx ρ1
        | none => .bad) := q
      cases hb : bindT tgI e.frz ρ1 with
      | none => rw [hb] at q; exact q.elim
      | some ρ2 =>
        rw [hb] at q
        have rd : k.RD (addF Φ1 G1) H1 v e.frz := re.frz (fun _ z => .inl z) fun a z => .inr z
        exact go.run v e.frz σ ρ1 ρ2 _ H1 fp1 _ rd S1.frzAll hb fun σ2 fp2 S2 st2 hj hl => q σ2 _ H1 fp2 (st.frzAll.trans st2) S2 T1 ⟨fun j hj' => hj j fun z => hj' (hw j z), hl⟩
/-- if -/
theorem pst_if {c : Expr} {x : X} {a b : List Stmt} {sa sb : Ss} {pos : Pos} (hc : PTX k c x) (ha : PSts k W a sa) (hb : PSts k W b sb) : PSt k W (.If c a b pos) (.ite x sa sb) :=
  ps_of (ps_if hc ha hb) fun D σ H ⟨ρ, Φ, fp, S, T, q⟩ => ⟨ρ, Φ, fp, S, T, by
    unfold evS at q
    cases hx : isB (evX k.c x ρ) with
    | bad => rw [hx] at q; exact q
    | exc n => rw [hx] at q; exact q
    | ok p =>
      obtain ⟨b0, ρ1⟩ := p
      rw [hx] at q
      intro Φ' H' fp' st S' T'
      cases b0 with
      | true => exact ⟨ρ1, Φ', fp', S', T', PostS.later (r := evSs k.c sa ρ1) st Kept.refl q⟩
      | false => exact ⟨ρ1, Φ', fp', S', T', PostS.later (r := evSs k.c sb ρ1) st Kept.refl q⟩⟩
/-- a slot's list or dict is changed -/
theorem Sta.updS {i : Nat} {a : Addr} {o : HO} {v : V} {e e' : E} (s : k.Sta Φ H σ ρ fp []) (hl : look ρ i = some e) (hv : σ[i]? = some (some v)) (hf : fp i = [a]) (mo : Mut (some o)) (re : k.RE Φ (upd H a o) v e' [a]) :
    k.Sta Φ (upd H a o) σ (put ρ i (some e')) fp [] ∧ Stp Φ H fp Φ (upd H a o) fp [] := by
  have ha : own fp a := ⟨i, by rw [hf]; simp⟩
  have x : Ext (fun b => b = a) Φ H Φ (upd H a o) := ⟨fun _ z => z, fun _ z => .inl z, fun b u e n _ => by rw [upd_ne n]; exact e, fun b e => by
    by_cases q : b = a
    · subst q; rw [upd_same] at e; cases e
    · rw [upd_ne q] at e; exact e⟩
  have w : Wd Φ H (fun b => b = a) := s.wd.sub fun b z => .inl (z ▸ ha)
  have hi : i < ρ.length := look_lt hl
  refine ⟨⟨⟨fun j e0 h => ?_, fun j h => ?_, s.env.nd, s.env.inj, by rw [put_length]; exact s.env.len⟩, ⟨s.wd.nf, fun b z e => s.wd.tr b z (x.dom b e), fun b z => ?_⟩, s.gnd, s.gn⟩, x.mono' fun b z => z ▸ ha, fun b z => z.elim .inl fun z => nomatch z⟩
  · rw [look_put] at h
    by_cases e1 : j = i
    · subst e1
      rw [if_pos ⟨rfl, hi⟩] at h
      cases h
      exact ⟨v, hv, by rw [hf]; exact re⟩
    · rw [if_neg (fun z => e1 z.1)] at h
      obtain ⟨u, h1, h2⟩ := s.env.at_ j e0 h
      exact ⟨u, h1, h2.ext w x fun b z q => e1 (s.env.inj j i a (q ▸ z) (by rw [hf]; simp))⟩
  · rw [look_put] at h
    by_cases e1 : j = i
    · subst e1; rw [if_pos ⟨rfl, hi⟩] at h; cases h
    · rw [if_neg (fun z => e1 z.1)] at h; exact s.env.no j h
  · by_cases q : b = a
    · subst q; rw [upd_same]; exact mo
    · rw [upd_ne q]; exact s.wd.mu b z
theorem Sta.w1 {i : Nat} {a : Addr} (s : k.Sta Φ H σ ρ fp []) (hf : fp i = [a]) : Wd Φ H (fun b => b = a) := s.wd.sub fun b z => .inl ⟨i, by rw [hf, z]; simp⟩
theorem ext1 {a : Addr} {o u : HO} (h : H a = some u) : Ext (fun b => b = a) Φ H Φ (upd H a o) := ⟨fun _ z => z, fun _ z => .inl z, fun b u e n _ => by rw [upd_ne n]; exact e, fun b e => by
    by_cases q : b = a
    · subst q; rw [upd_same] at e; cases e
    · rw [upd_ne q] at e; exact e⟩
/-- xs.append(e) -/
theorem pst_app {o e : Expr} {i : Nat} {x : X} {apos cpos pos : Pos} (ho : PE k.X o (tVar i)) (h : PX k e x) (hbase : attributeBase o "append" k.X.env (eval o k.X.env) = eval o k.X.env := by rfl)
    (hfew : ((backTo cpos (starEach [e] k.X.env)).all (fun x => !x.1) && (backToKw cpos (keywordEach [] k.X.env)).all (fun x => x.1.isSome)
      && decide ([e].length + ([] : List Keyword).length + (if ([] : List Keyword).isEmpty then 0 else 1) < 30)) = true := by rfl)
    (hline : (apos.endLine == cpos.line) = true := by rfl) (hs : starEach [e] k.X.env = (false, eval e k.X.env) :: starEach [] k.X.env := by rfl) (hsw : swapsWith (.Call (.Attribute o "append" apos) [e] [] cpos) none pos.line k.X.env = pure false := by rfl) :
    PSt k W (.Expr (.Call (.Attribute o "append" apos) [e] [] cpos) pos) (.app i x) :=
  ps_of (ps_expr (pe_bm PySem.F.plainAttrs_list PySem.F.slot_list_append PySem.F.type_list_append mt_append ho (pa_cons h pa_nil hs) hbase hfew hline hs rfl) hsw) fun D σ H ⟨ρ, Φ, fp, S, T, q⟩ => by
    unfold evS at q
    split at q
    · rename_i hL
      cases hl0 : look ρ i with
      | none => rw [hl0] at hL; cases hL
      | some e0 =>
        rw [hl0] at hL
        cases e0 with
        | l xs0 =>
          obtain ⟨v, hv, re0⟩ := S.env.at_ i _ hl0
          obtain ⟨a0, vs0, rfl, _, h0, _⟩ := re0.lI
          refine ⟨.ref a0, hv, Or.inl ⟨rfl, vs0, SqL.of h0⟩, ?_⟩
          refine tx_then S T q fun e ρ1 u Φ1 H1 fp1 G1 _ st S1 re T1 q => ?_
          replace q : PostS k W Φ H σ fp D (match look ρ1 i with
            | some (.l xs) => if few xs.length then .nx (put ρ1 i (some (.l (xs ++ [e.frz])))) else .bad
            | _ => .bad) := q
          cases hl1 : look ρ1 i with
          | none => rw [hl1] at q; exact q.elim
          | some e1 =>
            rw [hl1] at q
            cases e1 with
            | l xs =>
              have F1 := S1.frzAll
              obtain ⟨v1, hv1, re1⟩ := F1.env.at_ i _ hl1
              have ev : v1 = .ref a0 := by rw [hv] at hv1; exact (Option.some.inj (Option.some.inj hv1)).symm
              subst ev
              obtain ⟨a, vs, e2, hf, h1, h2⟩ := re1.lI
              cases e2
              replace q : PostS k W Φ H σ fp D (if few xs.length then .nx (put ρ1 i (some (.l (xs ++ [e.frz])))) else .bad) := q
              split at q
              · rename_i hfw
                have rd : k.RD (addF Φ1 G1) H1 u e.frz := re.frz (fun _ z => .inl z) fun a z => .inr z
                have w := F1.w1 hf
                have xx := ext1 (Φ := addF Φ1 G1) (o := .lst (vs ++ [u])) h1
                obtain ⟨S2, st2⟩ := Sta.updS (o := .lst (vs ++ [u])) (e' := .l (xs ++ [e.frz])) F1 hl1 hv hf trivial (.l upd_same ((h2.ext w xx).append (.cons (rd.ext w xx) .nil)))
                exact ⟨a0, vs, u, rfl, rfl, h1, by rw [h2.length]; exact few_lt hfw, q σ _ _ _ (st.frzAll.trans st2) S2 (Tb.upd T1 h1 (fun _ z => by cases z) (fun _ z => by cases z)) Kept.refl⟩
              · exact q.elim
            | _ => exact q.elim
        | _ => cases hL
    · exact q.elim
end
end EV
end
section
set_option linter.all false
set_option maxRecDepth 100000
/-! EvStmt2: loops, stores, raise. -/
namespace EV
open PySem PySem.W L2 PySem.Spec PyProof.Rows
section
variable {k : Kx} {n : Nat} {W W' Wb : List Nat} {Φ Φ' Φ1 : Frz} {H H' H1 : Hp} {σ σ' : L2.St} {ρ ρ' : Env} {fp fp' fp1 : Fp} {G G' : List Addr}
/-! ### several at once -/
theorem Sta.putG {i : Nat} {l : List Addr} {v : V} {e : E} (s : k.Sta Φ H σ ρ fp (G ++ l)) (re : k.RE Φ H v e l) : ∃ fp1, k.Sta Φ H (σ.set i (some v)) (put ρ i (some e)) fp1 G ∧ ∀ a, own fp1 a → own fp a ∨ a ∈ l := by
  obtain ⟨n1, n2, n3⟩ := List.nodup_append.mp s.gnd
  by_cases hi : i < ρ.length
  · have sub : ∀ a, own (setF fp i l) a → own fp a ∨ a ∈ l := fun a z => (own_set z).symm
    refine ⟨setF fp i l, ⟨s.env.putE hi re n2 fun a z j q => absurd ⟨j, q⟩ (s.gn a (List.mem_append_right _ z)), s.wd.sub fun a z => ?_, n1, fun a z q => ?_⟩, sub⟩
    · rcases z with z | z
      · exact (sub a z).imp id (List.mem_append_right _)
      · exact .inr (List.mem_append_left _ z)
    · rcases sub a q with q | q
      · exact s.gn a (List.mem_append_left _ z) q
      · exact n3 a z a q rfl
  · refine ⟨fp, ?_, fun a z => .inl z⟩
    rw [put_none ρ i _ hi, List.set_eq_of_length_le (by rw [s.env.len]; omega)]
    exact ⟨s.env, s.wd.sub fun a z => z.imp id (List.mem_append_left _), n1, fun a z => s.gn a (List.mem_append_left _ z)⟩
theorem ras_v {K : PySem.W.Frag} {fa : Nat → Addr} {v : V} {vs : List V} {e : E} {r : List Arg} (h : RAs K fa Φ H σ (v :: vs) (.v e :: r) G) : ∃ l G', G = G' ++ l ∧ EV.RE K fa Φ H v e l ∧ RAs K fa Φ H σ vs r G' := by
  cases h with
  | v a b => exact ⟨_, _, rfl, a, b⟩
/-- the arguments of a parallel store -/
theorem par_tas {as : As} {is : List Nat} {D : Ends} {t : List V → Hp → Prop} (hn : as.noS = true) (h : TSx k W (.par is as) D σ H)
    (ht : ∀ vs es args ρ0 ρ1 Φ1 H1 fp1 G1 Φ0 H0 fp0, evAs k.c as ρ0 = .ok (args, ρ1) → Stp Φ0 H0 fp0 Φ1 H1 fp1 G1 → k.Sta Φ1 H1 σ ρ1 fp1 G1 → RAs k.X.K k.fa Φ1 H1 σ vs args G1 → AllV args → fillE ρ1 args = some es → k.Tb H1 → PostS k W Φ0 H0 σ fp0 D (.nx ((is.zip es).foldl (fun ρ p => put ρ p.1 (some p.2)) ρ1)) → t vs H1) : tAs k as σ H t := by
  obtain ⟨ρ, Φ, fp, S, T, q⟩ := h
  exact as_of as S T (by
    unfold evS at q
    cases ha : evAs k.c as ρ with
    | bad => rw [ha] at q; exact q
    | exc n => rw [ha] at q; exact q
    | ok x =>
      obtain ⟨args, ρ1⟩ := x
      have hv := noS_all hn ha
      rw [ha] at q
      intro vs Φ1 H1 fp1 G1 st S1 ra T1
      replace q : PostS k W Φ H σ fp D (match fillE ρ1 args with
        | some es => .nx ((is.zip es).foldl (fun ρ p => put ρ p.1 (some p.2)) ρ1)
        | none => .bad) := q
      cases hf : fillE ρ1 args with
      | none => rw [hf] at q; exact q.elim
      | some es =>
        rw [hf] at q
        exact ht vs es args ρ ρ1 Φ1 H1 fp1 G1 Φ H fp ha st S1 ra hv hf T1 q)
theorem fillE_v {ρ : Env} {e : E} {r : List Arg} {es : List E} (h : fillE ρ (.v e :: r) = some es) : ∃ es', es = e :: es' ∧ fillE ρ r = some es' := by
  unfold fillE at h
  cases f : fillE ρ r with
  | none => rw [f] at h; cases h
  | some b => rw [f] at h; cases h; exact ⟨b, rfl, rfl⟩
theorem evAs_x {c : Calls} {x : X} {r : As} {args : List Arg} (h : evAs c (.x x r) ρ = .ok (args, ρ')) : ∃ e args' ρ1, args = .v e :: args' ∧ evAs c r ρ1 = .ok (args', ρ') := by
  unfold evAs at h
  obtain ⟨⟨e, ρ1⟩, _, h⟩ := R.bind_ok h
  obtain ⟨⟨a1, a2⟩, h1, h⟩ := R.bind_ok h
  cases h
  exact ⟨e, a1, ρ1, rfl, h1⟩
theorem evAs_nil {c : Calls} {args : List Arg} (h : evAs c .nil ρ = .ok (args, ρ')) : args = [] := by cases h; rfl
theorem pst_par2 {i j : Nat} {x y : Str} {a b : Expr} {x1 x2 : X} {px py pt pos : Pos} {kt k2 pt2} (ok : SOk k n) (hi : k.X.N[i]? = some x) (hj : k.X.N[j]? = some y) (hij : i ≠ j)
    (hx : k.X.env.scope.names.lookup x = some .local) (hy : k.X.env.scope.names.lookup y = some .local) (h : PAs k [a, b] (.x x1 (.x x2 .nil)))
    (hw : swappedStores [.Tuple [.Name x px, .Name y py] kt pt] (.Tuple [a, b] k2 pt2) k.X.env = pure (some [x, y]))
    (hs : swapsWithSole [.Tuple [.Name x px, .Name y py] kt pt] (.Tuple [a, b] k2 pt2) pos.line k.X.env = pure false := by rfl) (hwi : i ∈ W := by decide) (hwj : j ∈ W := by decide) :
    PSt k W (.Assign [.Tuple [.Name x px, .Name y py] kt pt] (.Tuple [a, b] k2 pt2) pos) (.par [i, j] (.x x1 (.x x2 .nil))) :=
  ps_of (ps_par ok.calm ok.nd hi hj hij hx hy h.pa hw hs) fun D σ H q => par_tas rfl q fun vs es args ρ0 ρ1 Φ1 H1 fp1 G1 Φ0 H0 fp0 he st S1 ra hv hf T1 q => by
    obtain ⟨e1, args1, ρ2, ea1, he1⟩ := evAs_x he
    obtain ⟨e2, args2, ρ3, ea2, he2⟩ := evAs_x he1
    have ea3 := evAs_nil he2
    subst ea3
    subst ea2
    subst ea1
    obtain ⟨v, vs, rfl⟩ : ∃ v vs', vs = v :: vs' := by cases ra; exact ⟨_, _, rfl⟩
    obtain ⟨l1, G2, rfl, r1, ra2⟩ := ras_v ra
    obtain ⟨w, vs, rfl⟩ : ∃ v vs', vs = v :: vs' := by cases ra2; exact ⟨_, _, rfl⟩
    obtain ⟨l2, G3, rfl, r2, ra3⟩ := ras_v ra2
    obtain ⟨es1, ee1, hf1⟩ := fillE_v hf
    obtain ⟨es2, ee2, hf2⟩ := fillE_v hf1
    subst ee2
    subst ee1
    cases hf2
    cases ra3
    obtain ⟨fp2, S2, o2⟩ := Sta.putG (i := i) S1 r1
    obtain ⟨fp3, S3, o3⟩ := Sta.putG (i := j) S2 r2
    refine ⟨v, w, rfl, q _ Φ1 H1 fp3 ⟨st.ext, fun a z => ?_⟩ S3 T1 ((Kept.set hwi).trans (Kept.set hwj))⟩
    rcases z with z | z
    · rcases o3 a z with z | z
      · rcases o2 a z with z | z
        · exact st.sub a (.inl z)
        · exact st.sub a (.inr (List.mem_append_right _ z))
      · exact st.sub a (.inr (List.mem_append_left _ (List.mem_append_right _ z)))
    · cases z

/-! ### while -/
theorem pst_while {c : Expr} {x : X} {body : List Stmt} {sb : Ss} {pos : Pos} (ok : SOk k n) (hc : PTX k c x) (hb : PSts k W body sb) : PSt k W (.While c body [] pos) (.whl x sb) :=
  ps_of (ps_while ok.own hc hb) fun D σ H ⟨ρ, Φ, fp, S, T, q⟩ => by
    unfold evS at q
    refine ⟨fun m σ1 H1 => ∃ ρ1 Φ1 fp1, Stp Φ H fp Φ1 H1 fp1 [] ∧ k.Sta Φ1 H1 σ1 ρ1 fp1 [] ∧ k.Tb H1 ∧ Kept W σ σ1 ∧ PostS k W Φ H σ fp D (whileF (fun ρ => isB (evX k.c x ρ)) (fun ρ => evSs k.c sb ρ) m ρ1), ⟨fuelW, ρ, Φ, fp, Stp.refl, S, T, Kept.refl, q⟩, ?_⟩
    rintro m σ1 H1 ⟨ρ1, Φ1, fp1, st1, S1, T1, kp1, q⟩
    cases m with
    | zero => exact q.elim
    | succ m =>
      unfold whileF at q
      refine ⟨ρ1, Φ1, fp1, S1, T1, ?_⟩
      cases hx : isB (evX k.c x ρ1) with
      | bad => rw [hx] at q; exact q
      | exc n => rw [hx] at q; exact exc_later st1 q
      | ok p =>
        obtain ⟨b0, ρ2⟩ := p
        rw [hx] at q
        intro Φ2 H2 fp2 st2 S2 T2
        have st12 := st1.trans st2
        cases b0 with
        | false =>
          rw [if_neg Bool.false_ne_true]
          exact q σ1 Φ2 H2 fp2 st12 S2 T2 kp1
        | true =>
          rw [if_pos rfl]
          replace q : PostS k W Φ H σ fp D (match evSs k.c sb ρ2 with
            | .nx ρ' => whileF (fun ρ => isB (evX k.c x ρ)) (fun ρ => evSs k.c sb ρ) m ρ'
            | .ct ρ' => whileF (fun ρ => isB (evX k.c x ρ)) (fun ρ => evSs k.c sb ρ) m ρ'
            | .bk ρ' => .nx ρ'
            | x => x) := q
          refine ⟨_, fun σ' H' h => ⟨m, Nat.lt_succ_self m, h⟩, ρ2, Φ2, fp2, S2, T2, ?_⟩
          cases hs : evSs k.c sb ρ2 with
          | nx ρ3 => rw [hs] at q; exact fun σ3 Φ3 H3 fp3 st3 S3 T3 kp3 => ⟨ρ3, Φ3, fp3, st12.trans st3, S3, T3, kp1.trans kp3, q⟩
          | ct ρ3 => rw [hs] at q; exact fun σ3 Φ3 H3 fp3 st3 S3 T3 kp3 => ⟨ρ3, Φ3, fp3, st12.trans st3, S3, T3, kp1.trans kp3, q⟩
          | bk ρ3 => rw [hs] at q; exact fun σ3 Φ3 H3 fp3 st3 S3 T3 kp3 => q σ3 Φ3 H3 fp3 (st12.trans st3) S3 T3 (kp1.trans kp3)
          | rt e ρ3 => rw [hs] at q; exact fun v σ3 Φ3 H3 fp3 G3 st3 S3 re3 T3 kp3 => q v σ3 Φ3 H3 fp3 G3 (st12.trans st3) S3 re3 T3 (kp1.trans kp3)
          | exc n => rw [hs] at q; exact exc_later st12 q
          | bad => rw [hs] at q; exact q.elim

/-! ### for -/
def Src.hid : Src → List Nat
  | .slt i => [i]
  | .sltL i => [i]
  | .x _ => []
  | .rng _ _ => []
  | .enS i => [i]
  | .en _ => []
  | .zip as => as.slots
theorem src_hid {c : Calls} {src : Src} {xs : List D} {hid : List Nat} (h : evSrc c src ρ = .ok (xs, ρ', hid)) : hid = src.hid := by
  cases src with
  | slt i => obtain ⟨a, _, h⟩ := R.bind_ok h; cases h; rfl
  | sltL i =>
    unfold evSrc at h
    split at h
    · cases h; rfl
    · cases h
  | x e => obtain ⟨a, _, h⟩ := R.bind_ok h; obtain ⟨b, _, h⟩ := R.bind_ok h; cases h; rfl
  | rng n as => obtain ⟨a, _, h⟩ := R.bind_ok h; obtain ⟨b, _, h⟩ := R.bind_ok h; cases h; rfl
  | enS i => obtain ⟨a, _, h⟩ := R.bind_ok h; cases h; rfl
  | en e => obtain ⟨a, _, h⟩ := R.bind_ok h; obtain ⟨b, _, h⟩ := R.bind_ok h; cases h; rfl
  | zip as => obtain ⟨⟨a1, a2⟩, ha, h⟩ := R.bind_ok h; obtain ⟨b, _, h⟩ := R.bind_ok h; cases h; exact as_slots ha
theorem pst_for {tg iter : Expr} {body : List Stmt} {g : TG} {tgI : Tg} {src : Src} {sb : Ss} {pos : Pos} (Wb : List Nat) (ok : SOk k n) (hi : PSx k tg iter src) (hg : PG k.X tg g) (go : TgOk k g tgI) (hb : PSts k Wb body sb)
    (h1 : ∀ i ∈ src.hid, i ∉ Wb := by decide) (h2 : ∀ i ∈ tgI.slots, i ∈ Wb := by decide) (h3 : ∀ i ∈ Wb, i ∈ W := by decide) (hs : ∀ x, foldedSetIterable iter k.X.env x = pure x := by intro _; rfl) : PSt k W (.For tg iter body [] pos) (.for_ tgI src sb) :=
  ps_of (ps_for ok.own ok.calm hi hg hb hs) fun D σ H ⟨ρ, Φ, fp, S, T, q⟩ => ⟨ρ, Φ, fp, S, T, by
    unfold evS at q
    cases hx : evSrc k.c src ρ with
    | bad => rw [hx] at q; exact q
    | exc n => rw [hx] at q; exact q
    | ok p =>
      obtain ⟨xs, ρ1, hid⟩ := p
      have eh := src_hid hx
      subst eh
      rw [hx] at q
      intro J Φ1 H1 fp1 P st S1 T1 hlen pins Wk
      let f : EV.D → Env → SR := fun x ρ => match bindT tgI x ρ with
        | some ρ1 => evSs k.c sb ρ1
        | none => .bad
      replace q : PostS k W Φ H σ fp D (wrapF ρ1 src.hid (forL f xs (wipes ρ1 src.hid))) := q
      obtain ⟨Sh, sth⟩ := S1.hide (σ' := σ) src.hid (fun _ _ => rfl) rfl
      have w1 : L2.Walk J xs.length (GP P) (fun i H x H' => J.yld i H x H') := ⟨Wk.goes, Wk.stops, fun i H x H' _ _ y => y⟩
      -- out of the loop
      have back : ∀ {σ2 : L2.St} {ρ2 : Env} {Φ2 : Frz} {H2 : Hp} {fp2 : Fp} {G2 : List Addr}, Stp Φ1 H1 (hideF fp1 src.hid) Φ2 H2 fp2 G2 → k.Sta Φ2 H2 σ2 ρ2 fp2 G2 → Kept Wb σ σ2 → k.Sta Φ2 H2 σ2 (restore ρ1 ρ2 src.hid) (unhideF fp1 fp2 src.hid) G2 ∧ Stp Φ H fp Φ2 H2 (unhideF fp1 fp2 src.hid) G2 := fun st2 S2 kp => by
        obtain ⟨a, b⟩ := S1.unhide st2 S2 (fun _ _ => rfl) (fun j hj => kp.1 j (h1 j hj)) rfl kp.2
        exact ⟨a, st.trans b⟩
      refine for_it w1 (fun i σ2 H2 => ∃ ρ2 Φ2 fp2, Stp Φ1 H1 (hideF fp1 src.hid) Φ2 H2 fp2 [] ∧ k.Sta Φ2 H2 σ2 ρ2 fp2 [] ∧ k.Tb H2 ∧ Kept Wb σ σ2 ∧ PostS k W Φ H σ fp D (wrapF ρ1 src.hid (forL f (xs.drop i) ρ2))) ⟨_, Φ1, _, Stp.refl, Sh, T1, Kept.refl, q⟩
        (fun i σ2 H2 hi ⟨ρ2, Φ2, fp2, st2, S2, _⟩ => pin_stays S1 pins (fun _ z => z) st2.ext) ?_ (fun σ2 H2 ⟨ρ2, Φ2, fp2, st2, S2, T2, kp, q⟩ => ?_)
      · rintro i x σ2 H2 H3 hi ⟨ρ2, Φ2, fp2, st2, S2, T2, kp, q⟩ y0
        have gp := pin_stays S1 pins (fun _ z => z) st2.ext
        obtain ⟨fr, d, hd, rd⟩ := Wk.yields i H2 x H3 Φ2 hi gp (Ext.stay (S1.wd.sub fun a z => .inl (hideF_own z)) st2.ext) y0
        have hdrop : xs.drop i = d :: xs.drop (i + 1) := by
          rw [List.drop_eq_getElem_cons hi]
          have : xs[i] = d := by
            have := List.getElem?_eq_getElem hi
            rw [hd] at this
            exact (Option.some.inj this).symm
          rw [this]
        rw [hdrop] at q
        unfold forL at q
        obtain ⟨S3, st3⟩ := S2.fresh fr
        have T3 : k.Tb H3 := T2.ext fr.keep
        cases hb0 : bindT tgI d ρ2 with
        | none =>
          have hf : f d ρ2 = .bad := by show (match bindT tgI d ρ2 with | some ρ1 => evSs k.c sb ρ1 | none => SR.bad) = _; rw [hb0]
          rw [hf] at q
          exact q.elim
        | some ρ3 =>
          have hf : f d ρ2 = evSs k.c sb ρ3 := by show (match bindT tgI d ρ2 with | some ρ1 => evSs k.c sb ρ1 | none => SR.bad) = _; rw [hb0]
          rw [hf] at q
          refine go.run x d σ2 ρ2 ρ3 Φ2 H3 fp2 _ rd S3 hb0 fun σ4 fp4 S4 st4 hj hl4 => ?_
          have kp4 : Kept Wb σ σ4 := kp.trans ⟨fun j hj' => hj j fun z => hj' (h2 j z), hl4⟩
          have stA := (st2.trans st3).trans st4
          refine ⟨ρ3, Φ2, fp4, S4, T3, ?_⟩
          cases hs : evSs k.c sb ρ3 with
          | nx ρ5 => rw [hs] at q; exact fun σ5 Φ5 H5 fp5 st5 S5 T5 kp5 => ⟨ρ5, Φ5, fp5, stA.trans st5, S5, T5, kp4.trans kp5, q⟩
          | ct ρ5 => rw [hs] at q; exact fun σ5 Φ5 H5 fp5 st5 S5 T5 kp5 => ⟨ρ5, Φ5, fp5, stA.trans st5, S5, T5, kp4.trans kp5, q⟩
          | bk ρ5 =>
            rw [hs] at q
            exact fun σ5 Φ5 H5 fp5 st5 S5 T5 kp5 => by
              obtain ⟨z1, z2⟩ := back (stA.trans st5) S5 (kp4.trans kp5)
              exact q σ5 Φ5 H5 _ z2 z1 T5 ((kp4.trans kp5).mono h3)
          | rt e ρ5 =>
            rw [hs] at q
            exact fun v σ5 Φ5 H5 fp5 G5 st5 S5 re5 T5 kp5 => by
              obtain ⟨z1, z2⟩ := back (stA.trans st5) S5 (kp4.trans kp5)
              exact q v σ5 Φ5 H5 _ G5 z2 z1 re5 T5 ((kp4.trans kp5).mono h3)
          | exc n =>
            rw [hs] at q
            exact exc_later (st.trans (sth.trans stA)) q
          | bad => rw [hs] at q; exact q.elim
      · rw [List.drop_eq_nil_of_le (Nat.le_refl _)] at q
        obtain ⟨z1, z2⟩ := back st2 S2 kp
        exact q σ2 Φ2 H2 _ z2 z1 T2 (kp.mono h3)⟩

/-! ### raise -/
theorem pst_raise {x m : Str} {c : Nat} {j : Nat} {p p2 pos pos2 : Pos} {bmB : List Value} {B newId initId : String} (ok : SOk k n) (F : ExcBaseFacts B newId initId bmB) (q : PySem.W.excIn k.X.K (k.ca c) bmB newId = true) (gC : k.X.mg x = some (.ref (k.ca c))) (kC : PySem.W.keepIn k.X.K (.ref (k.ca c)) = true) (r : Raises k.X (.ref (k.ca c))) (hg : Gl k.X x)
    (hdb : (x == ("__debug__" : Str)) = false := by decide) : PSt k W (.Raise (some (.Call (.Name x p) [.Constant (.str m) j p2] [] pos)) none pos2) (.raise c) :=
  ps_of (L2N.ps_raise ok.calm ok.takes (L2N.pmk_own F q gC kC r hg hdb)) fun D σ H ⟨ρ, Φ, fp, S, T, q⟩ => q Φ H Ext.refl (S.wd.sub fun _ z => z.elim) T
end
end EV
end
section
set_option linter.all false
set_option maxRecDepth 100000
/-! EvSet: stores into lists and dicts. -/
namespace EV
open PySem PySem.W L2 PySem.Spec PyProof.Rows
def rSetD : TSet := fun o i v H Q => ∃ a H', o = .ref a ∧ DPut H a i v H' ∧ Q H'
theorem set_dict {X : Cx} (hu : X.A.units + 1 < cLine) : PSet X rSetD := by
  intro pins s σ H o i v ov iv u Q I ro ri rv h
  obtain ⟨a, H', rfl, g, q⟩ := h
  obtain rfl : ov = Value.ref a := ro
  exact d_setItem hu I g ri rv fun s4 I4 => ⟨H', I4, q⟩
def rSetA : TSet := fun o i v H Q => rSetL o i v H Q ∨ rSetD o i v H Q
theorem set_any {X : Cx} (hu : X.A.units + 66 < cLine) : PSet X rSetA := by
  intro pins s σ H o i v ov iv u Q I ro ri rv h
  rcases h with h | h
  · exact set_list pins s σ H o i v ov iv u Q I ro ri rv h
  · exact set_dict (by omega) pins s σ H o i v ov iv u Q I ro ri rv h
section
variable {K : PySem.W.Frag} {fa : Nat → Addr} {Φ : Frz} {H : Hp}
theorem RDk.any {ws : List (Key × V)} {kvs : List (Key × D)} (r : RDk K fa Φ H ws kvs) (k : Key) : (ws.any fun kv => decide (kv.1 = k)) = (kGet kvs k).isSome := by
  induction kvs generalizing ws with
  | nil => cases r; rfl
  | cons p kvs ih =>
    cases r with
    | @cons k' v vs d ds a b =>
      unfold kGet
      rw [List.any_cons, ih b]
      by_cases e : k' = k
      · rw [if_pos e]; simp [e]
      · rw [if_neg e]; simp [e]
theorem RDt.any {ws : List (List Key × V)} {kvs : List (List Key × D)} (r : RDt K fa Φ H ws kvs) (k : List Key) : (ws.any fun kv => decide (kv.1 = k)) = (kGet kvs k).isSome := by
  induction kvs generalizing ws with
  | nil => cases r; rfl
  | cons p kvs ih =>
    cases r with
    | @cons k' v vs d ds a b =>
      unfold kGet
      rw [List.any_cons, ih b]
      by_cases e : k' = k
      · rw [if_pos e]; simp [e]
      · rw [if_neg e]; simp [e]
theorem RDk.map {ws : List (Key × V)} {kvs : List (Key × D)} (r : RDk K fa Φ H ws kvs) (k : Key) {v : V} {d : D} (q : RD K fa Φ H v d) : RDk K fa Φ H (ws.map fun kv => if kv.1 = k then (kv.1, v) else kv) (kvs.map fun kv => if kv.1 = k then (kv.1, d) else kv) := by
  induction kvs generalizing ws with
  | nil => cases r; exact .nil
  | cons p kvs ih =>
    cases r with
    | @cons k' v' vs d' ds a b =>
      rw [List.map_cons, List.map_cons]
      by_cases e : k' = k
      · rw [if_pos e, if_pos e]; exact .cons q (ih b)
      · rw [if_neg e, if_neg e]; exact .cons a (ih b)
theorem RDt.map {ws : List (List Key × V)} {kvs : List (List Key × D)} (r : RDt K fa Φ H ws kvs) (k : List Key) {v : V} {d : D} (q : RD K fa Φ H v d) : RDt K fa Φ H (ws.map fun kv => if kv.1 = k then (kv.1, v) else kv) (kvs.map fun kv => if kv.1 = k then (kv.1, d) else kv) := by
  induction kvs generalizing ws with
  | nil => cases r; exact .nil
  | cons p kvs ih =>
    cases r with
    | @cons k' v' vs d' ds a b =>
      rw [List.map_cons, List.map_cons]
      by_cases e : k' = k
      · rw [if_pos e, if_pos e]; exact .cons q (ih b)
      · rw [if_neg e, if_neg e]; exact .cons a (ih b)
theorem RDk.snoc {ws : List (Key × V)} {kvs : List (Key × D)} (r : RDk K fa Φ H ws kvs) (k : Key) {v : V} {d : D} (q : RD K fa Φ H v d) : RDk K fa Φ H (ws ++ [(k, v)]) (kvs ++ [(k, d)]) := by
  induction kvs generalizing ws with
  | nil => cases r; exact .cons q .nil
  | cons p kvs ih => cases r with | cons a b => exact .cons a (ih b)
theorem RDt.snoc {ws : List (List Key × V)} {kvs : List (List Key × D)} (r : RDt K fa Φ H ws kvs) (k : List Key) {v : V} {d : D} (q : RD K fa Φ H v d) : RDt K fa Φ H (ws ++ [(k, v)]) (kvs ++ [(k, d)]) := by
  induction kvs generalizing ws with
  | nil => cases r; exact .cons q .nil
  | cons p kvs ih => cases r with | cons a b => exact .cons a (ih b)
theorem RDk.put {ws : List (Key × V)} {kvs : List (Key × D)} (r : RDk K fa Φ H ws kvs) (k : Key) {v : V} {d : D} (q : RD K fa Φ H v d) : RDk K fa Φ H (putK ws k v) (kPut kvs k d) := by
  unfold putK kPut
  rw [r.any k]
  by_cases h : (kGet kvs k).isSome = true
  · rw [if_pos h, if_pos h]; exact r.map k q
  · rw [if_neg h, if_neg h]; exact r.snoc k q
theorem RDt.put {ws : List (List Key × V)} {kvs : List (List Key × D)} (r : RDt K fa Φ H ws kvs) (k : List Key) {v : V} {d : D} (q : RD K fa Φ H v d) : RDt K fa Φ H (putK ws k v) (kPut kvs k d) := by
  unfold putK kPut
  rw [r.any k]
  by_cases h : (kGet kvs k).isSome = true
  · rw [if_pos h, if_pos h]; exact r.map k q
  · rw [if_neg h, if_neg h]; exact r.snoc k q
theorem RDk.length {ws : List (Key × V)} {kvs : List (Key × D)} (r : RDk K fa Φ H ws kvs) : ws.length = kvs.length := by
  induction kvs generalizing ws with
  | nil => cases r; rfl
  | cons p kvs ih => cases r with | cons a b => rw [List.length_cons, List.length_cons, ih b]
theorem RDt.length {ws : List (List Key × V)} {kvs : List (List Key × D)} (r : RDt K fa Φ H ws kvs) : ws.length = kvs.length := by
  induction kvs generalizing ws with
  | nil => cases r; rfl
  | cons p kvs ih => cases r with | cons a b => rw [List.length_cons, List.length_cons, ih b]
end
section
variable {k : Kx} {n : Nat} {W : List Nat} {Φ Φ' Φ1 : Frz} {H H' H1 : Hp} {σ σ' : L2.St} {ρ ρ' : Env} {fp fp' fp1 : Fp} {G G' : List Addr}
/-- what is stored, by values -/
theorem set_ok {i : Nat} {v y u : V} {e e' : E} {dy du : D} {Q : Hp → Prop} (s : k.Sta Φ H σ ρ fp []) (T : k.Tb H) (hl : look ρ i = some e) (hv : σ[i]? = some (some v)) (ry : k.RD Φ H y dy) (ru : k.RD Φ H u du) (he : setE e dy du = some e')
    (q : ∀ H', Stp Φ H fp Φ H' fp [] → k.Sta Φ H' σ (put ρ i (some e')) fp [] → k.Tb H' → Q H') : rSetA v y u H Q := by
  obtain ⟨v1, hv1, re⟩ := s.env.at_ i e hl
  have ev : v1 = v := by rw [hv] at hv1; exact (Option.some.inj (Option.some.inj hv1)).symm
  subst ev
  unfold setE at he
  split at he
  · rename_i xs j
    cases hj : ixN xs.length j with
    | none => rw [hj] at he; cases he
    | some m =>
      rw [hj] at he
      cases he
      obtain ⟨a, vs, rfl, hf, h1, h2⟩ := re.lI
      cases ry
      have w := s.w1 hf
      have xx := ext1 (Φ := Φ) (o := .lst (vs.set m u)) h1
      obtain ⟨S2, st2⟩ := Sta.updS (o := .lst (vs.set m u)) (e' := .l (xs.set m du)) s hl hv hf trivial (.l upd_same ((h2.ext w xx).set m (ru.ext w xx)))
      exact .inl ⟨a, vs, j, m, rfl, rfl, h1, by rw [h2.length]; exact hj, q _ st2 S2 (Tb.upd T h1 (fun _ z => by cases z) (fun _ z => by cases z))⟩
  · rename_i kvs
    split at he
    · rename_i hfw
      cases hk : keyOf dy with
      | none => rw [hk] at he; cases he
      | some key =>
        rw [hk] at he
        cases he
        obtain ⟨a, ws, rfl, hf, h1, h2⟩ := re.dkI
        have w := s.w1 hf
        have xx := ext1 (Φ := Φ) (o := .dK (putK ws key u)) h1
        obtain ⟨S2, st2⟩ := Sta.updS (o := .dK (putK ws key u)) (e' := .dk (kPut kvs key du)) s hl hv hf trivial (.dk upd_same ((h2.ext w xx).put key (ru.ext w xx)))
        refine .inr ⟨a, _, rfl, ?_, q _ st2 S2 (Tb.upd T h1 (fun _ z => by cases z) (fun _ z => by cases z))⟩
        rw [RDs.noDict (.of ry) hk]
        exact DPut.k h1 (by rw [h2.length]; exact few_lt hfw)
    · cases he
  · rename_i kvs ks
    split at he
    · rename_i hfw
      cases hk : keysOf ks with
      | none => rw [hk] at he; cases he
      | some keys =>
        rw [hk] at he
        cases he
        obtain ⟨a, ws, rfl, hf, h1, h2⟩ := re.dtI
        have w := s.w1 hf
        have xx := ext1 (Φ := Φ) (o := .dT (putK ws keys u)) h1
        obtain ⟨S2, st2⟩ := Sta.updS (o := .dT (putK ws keys u)) (e' := .dt (kPut kvs keys du)) s hl hv hf trivial (.dt upd_same ((h2.ext w xx).put keys (ru.ext w xx)))
        cases ry with
        | @tup b vs _ eb r =>
          refine .inr ⟨a, _, rfl, ?_, q _ st2 S2 (Tb.upd T h1 (fun _ z => by cases z) (fun _ z => by cases z))⟩
          exact DPut.t h1 (by rw [eb, r.keys hk]) (by rw [h2.length]; exact few_lt hfw)
    · cases he
  · cases he
/-- o[a] = e -/
theorem pst_setix {o a e : Expr} {i : Nat} {x y : X} {pos' pos : Pos} (ok : SOk k n) (ho : PE k.X o (tVar i)) (ha : PX k a y) (h : PX k e x) (hs : swapsWithSole [.Subscript o a pos'] e pos.line k.X.env = pure false := by rfl) (hsw : swappedStores [.Subscript o a pos'] e k.X.env = pure none := by rfl)
    (h1 : (assignEach [.Subscript o a pos'] k.X.env).map (·.2) = [assign (.Subscript o a pos') k.X.env] := by rfl)
    (h2 : ∀ v, assign (.Subscript o a pos') k.X.env v = (do
      let ov ← holding [v] (eval o k.X.env)
      let iv ← holding [v, ov] (eval a k.X.env)
      standAt pos'
      holding [v, ov, iv] (setItem ov iv v)
      release [v, ov, iv] []) := by intro _; rfl) : PSt k W (.Assign [.Subscript o a pos'] e pos) (.setix i y x) :=
  ps_of (ps_asg h (pg_sub ho ha (set_any ok.hu) h2) hs hsw h1) fun D σ H ⟨ρ, Φ, fp, S, T, q⟩ => by
    unfold evS at q
    refine tx_then S T q fun e ρ1 u Φ1 H1 fp1 G1 _ st1 S1 re1 T1 q => ?_
    replace q : PostS k W Φ H σ fp D (if (look ρ1 i).isSome then (evX k.c y ρ1).toS fun q => match look q.2 i with
      | some e2 => (match setE e2 q.1.frz e.frz with
        | some e' => .nx (put q.2 i (some e'))
        | none => .bad)
      | none => .bad else .bad) := q
    split at q
    · rename_i hsome
      obtain ⟨e0, hl0⟩ := Option.isSome_iff_exists.mp hsome
      have F1 := S1.frzAll
      have ru : k.RD (addF Φ1 G1) H1 u e.frz := re1.frz (fun _ z => .inl z) fun a z => .inr z
      obtain ⟨v, hv, _⟩ := F1.env.at_ i e0 hl0
      refine ⟨v, hv, ρ1, _, fp1, F1, T1, ?_⟩
      cases hy : evX k.c y ρ1 with
      | bad => rw [hy] at q; exact q
      | exc n => rw [hy] at q; exact exc_later st1.frzAll q
      | ok p2 =>
        obtain ⟨e2, ρ2⟩ := p2
        rw [hy] at q
        intro w Φ2 H2 fp2 G2 st2 S2 re2 T2
        replace q : PostS k W Φ H σ fp D (match look ρ2 i with
          | some e3 => (match setE e3 e2.frz e.frz with
            | some e' => .nx (put ρ2 i (some e'))
            | none => .bad)
          | none => .bad) := q
        cases hl : look ρ2 i with
        | none => rw [hl] at q; exact q.elim
        | some e3 =>
          rw [hl] at q
          replace q : PostS k W Φ H σ fp D (match setE e3 e2.frz e.frz with
            | some e' => .nx (put ρ2 i (some e'))
            | none => .bad) := q
          cases he : setE e3 e2.frz e.frz with
          | none => rw [he] at q; exact q.elim
          | some e' =>
            rw [he] at q
            have F2 := S2.frzAll
            have s1 := Ext.stay (F1.wd.sub fun a z => .inl z) st2.ext
            have w4 : Stay (addF Φ1 G1) H1 (addF Φ2 G2) H2 := ⟨fun a z => .inl (s1.mono a z), fun b o e f t => s1.frz b o e f t, fun b o e m t => s1.imm b o e m t⟩
            have rw2 : k.RD (addF Φ2 G2) H2 w e2.frz := re2.frz (fun _ z => .inl z) fun a z => .inr z
            exact set_ok F2 T2 hl hv rw2 (ru.stay w4) he fun H3 st3 S3 T3 => q σ _ H3 fp2 ((st1.frzAll.trans st2.frzAll).trans st3) S3 T3 Kept.refl
    · exact q.elim
end
end EV
end
section
set_option linter.all false
set_option maxRecDepth 100000
/-! EvPop: xs.pop(), xs.pop(i). -/
namespace EV
open PySem PySem.W L2 PySem.Spec PyProof.Rows
section
variable {k : Kx} {Φ Φ' : Frz} {H H' : Hp}
theorem RDs.era {K : PySem.W.Frag} {fa : Nat → Addr} : ∀ {vs : List V} {xs : List D} (i : Nat), RDs K fa Φ H vs xs → RDs K fa Φ H (vs.eraseIdx i) (xs.eraseIdx i)
  | _, _, i, .nil => by simp; exact .nil
  | _, _, 0, .cons a b => by simp; exact b
  | _, _, i + 1, .cons a b => by simp; exact .cons a (RDs.era i b)
theorem RDs.dl {K : PySem.W.Frag} {fa : Nat → Addr} : ∀ {vs : List V} {xs : List D}, RDs K fa Φ H vs xs → RDs K fa Φ H vs.dropLast xs.dropLast
  | _, _, .nil => by simp; exact .nil
  | _, _, .cons a .nil => by simp; exact .nil
  | _ :: v2 :: vs, _ :: d2 :: ds, .cons a (.cons b c) => by
    have z := RDs.dl (vs := v2 :: vs) (xs := d2 :: ds) (.cons b c)
    exact RDs.cons a z
theorem px_pop {o : Expr} {i : Nat} {apos cpos : Pos} (ho : PE k.X o (tVar i)) (hbase : attributeBase o "pop" k.X.env (eval o k.X.env) = eval o k.X.env := by rfl) (hline : (apos.endLine == cpos.line) = true := by rfl) :
    PX k (.Call (.Attribute o "pop" apos) [] [] cpos) (.pop i) :=
  pe_of (pe_bm0 PySem.F.plainAttrs_list PySem.F.slot_list_pop PySem.F.type_list_pop mt_pop ho hbase hline) fun σ H Q ⟨ρ, Φ, fp, S, T, q⟩ => by
    unfold evX at q
    cases hl : look ρ i with
    | none => rw [hl] at q; exact q.elim
    | some e0 =>
      rw [hl] at q
      cases e0 with
      | l xs =>
        obtain ⟨v, hv, re0⟩ := S.env.at_ i _ hl
        obtain ⟨a, vs, rfl, hf, h1, h2⟩ := re0.lI
        replace q : PostX k Φ H σ fp Q (match xs[xs.length - 1]? with
          | some x => .ok (.d x, put ρ i (some (.l xs.dropLast)))
          | none => .bad) := q
        cases hx : xs[xs.length - 1]? with
        | none => rw [hx] at q; exact q.elim
        | some x =>
          rw [hx] at q
          obtain ⟨y, hy, ry⟩ := h2.get hx
          have w := S.w1 hf
          have xx := ext1 (Φ := Φ) (o := .lst vs.dropLast) h1
          obtain ⟨S2, st2⟩ := Sta.updS (o := .lst vs.dropLast) (e' := .l xs.dropLast) S hl hv hf trivial (.l upd_same ((h2.ext w xx).dl))
          exact ⟨.ref a, hv, Or.inl ⟨rfl, vs, SqL.of h1⟩, a, vs, y, rfl, rfl, h1, by rw [h2.length]; exact hy, q y _ _ fp [] st2 S2 (.d (ry.ext w xx)) (Tb.upd T h1 (fun _ z => by cases z) (fun _ z => by cases z))⟩
      | _ => exact q.elim
end
end EV
end
section
set_option Elab.async false
set_option linter.all false
set_option maxRecDepth 100000
set_option maxHeartbeats 4000000
/-! EvUni: sorted(set(xs)) of a list or a tuple of ints; dict(d). -/
namespace EV
open PySem PySem.W L2 PySem.Spec PyProof.Rows
abbrev emS (w : World) : Obj := { cls := .type "set", dict := none, data := .set #[] 0 (.fresh 0 0 (!w.params.followText "set-order")) }
section
variable {P : Program} {w : World} {A : Around} {E : Value → Shared → Prop} {s : Shared}
theorem call_set_lstI {l : Addr} {items : Array Value} (ns : List Int) {Q : Value → Shared → Prop} (hh : A.handled = none) (hl : s.heap.IsList l items) (hit : IntsAre items.toList ns) (hb : ns.length + 1 < scanBound)
    (h : ∀ (h' : Heap) (tk c : Nat), SetR w h' s.heap.objs.size (fun j => decide (j ∈ ns)) c → c ≤ ns.length → (∀ b o, s.heap.get? b = some o → h'.get? b = some o) → Q (.ref s.heap.objs.size) { s with heap := h', toks := tk }) :
    wpAny (model P w) A (call (.type "set") [.ref l]) Q E s := by
  have kSz : items.size = ns.length := by
    have q := IntsAre.length hit
    rw [Array.length_toList] at q
    exact q
  obtain ⟨c, tl, kMro⟩ := F.called_set.mro
  have kMade := F.called_set.made
  have kSub := F.called_set.sub
  refine wpAny_call (codeAny_of_tree ?_)
  show wpAny _ _ (callAny (.type "set") _) _ _ _
  refine wpAny_pure ⟨Code.quiet_builtin _ (by decide +kernel), codeAny_builtin F.entry_type_call ?_⟩
  rw [Around.under_plain (weight_type_call_type "set" [.ref l] []) rfl]
  have h1 := F.called_set.notType
  have h2 := F.called_set.canCreate
  have kCt := F.typeCall_set_1 (.ref l)
  repeat (any_goals (first | assumption | wp_step))

  refine codeAny_mono (code_set_led1 (.ref l) (E := E) (Q₁ := fun obj s₁ => obj = .ref s.heap.objs.size ∧ s₁ = { s with heap := s.heap.push (emS w) }) ⟨rfl, rfl⟩) fun r s₁ hr => ?_
  cases r with
  | error e => exact hr
  | ok fl =>
    cases fl with
    | ret obj =>
      obtain ⟨rfl, rfl⟩ := hr
      have kHs : (s.heap.push (emS w)).get? s.heap.objs.size = some (emS w) := Heap.get?_push_size _ rfl
      have kHt : Shared.TypeIs { s with heap := s.heap.push (emS w) } (.ref s.heap.objs.size) "set" := ⟨_, kHs, rfl⟩
      have kLi := F.called_set.init.lookup
      have kBi := F.called_set.init.bind (.ref s.heap.objs.size)
      repeat (any_goals (first | assumption | wp_step))

      refine codeAny_mono (codeAny_call_builtin (R := wants (fun r s₂ => r = .none ∧ ∃ h' tk c, s₂ = { s with heap := h', toks := tk } ∧ SetR w h' s.heap.objs.size (fun j => decide (j ∈ ns)) c ∧ c ≤ ns.length ∧
          (∀ b o, s.heap.get? b = some o → h'.get? b = some o)) E) F.called_set.init.plain F.entry_set_init (check_set_init_1 kHt ?_)) fun r₂ s₂ kR2 => ?_
      · obtain ⟨ol, kOl, kCl, nl, kDl⟩ := hl
        obtain ⟨ocls, odict, odata, oslots⟩ := ol
        simp only at kCl kDl
        subst kCl; subst kDl
        have kOl2 : (s.heap.push (emS w)).get? l = some { cls := .type "list", dict := odict, data := .seq items nl, slots := oslots } := Heap.get?_push_of_some _ kOl
        have kSs := F.sub_list_set
        have kSf := F.sub_list_frozenset
        have kNe : (Value.type "list" == Value.type "dict") = false := by decide
        have kL1 : (s.heap.push (emS w)).IsList l items := ⟨_, kOl2, rfl, nl, rfl⟩
        unfold Builtin.«set.__init__» noKeywords Builtin.Frozenset.updateFrom
        generalize hPI : pyIter = PI
        wp_walk
        subst hPI

        refine wpAny_pyIter_list kL1 ?_
        refine wpAny_bind (wpAny_runValue ?_)
        have kLt : l < s.heap.objs.size := Heap.lt_size kOl
        have kH3 : A.in1.in1.in1.handled = none := by simp [hh]
        have kZ1 : (s.heap.push (emS w)).objs.size = s.heap.objs.size + 1 := Heap.size_push ..
        have kNeI : l ≠ (s.heap.push (emS w)).objs.size := by
          rw [Heap.size_push]; exact Nat.ne_of_lt (Nat.lt_succ_of_lt kLt)
        have kSfp : s.heap.objs.size ∉ [(s.heap.push (emS w)).objs.size, l] := by
          rw [Heap.size_push]; simp only [List.mem_cons, List.mem_singleton, List.not_mem_nil, or_false, not_or]
          exact ⟨Nat.ne_of_lt (Nat.lt_succ_self _), Nat.ne_of_gt kLt⟩
        have kVal : ∀ (i : Nat) (v : Value), items[i]? = some v → ∃ k t, ns[i]? = some k ∧ v = .int k t := fun i v hv => by
          have hi : i < ns.length := by rw [← kSz]; exact (Array.getElem?_eq_some_iff.mp hv).1
          obtain ⟨t, e⟩ := PyProof.Rows.IntsAre.int_at hit i v (by rw [Array.getElem?_toList]; exact hv)
          refine ⟨ns[i], t, List.getElem?_eq_getElem hi, ?_⟩
          rw [e, List.getD_eq_getElem?_getD, List.getElem?_eq_getElem hi] <;> rfl
        refine set_update_ints ((Walks.list kH3 _ l kNeI items).toS) s.heap.objs.size
          kSfp ns kSz hb kVal (items.size - 0) 0 _ (by omega) (Nat.zero_le _)
          ⟨⟨_, Heap.get?_push_size _ rfl, rfl, rfl⟩, (kL1.push _)⟩ ?hS0 ?hR
        case hS0 =>
          have kGet : ((s.heap.push (emS w)).push { cls := .type "list_iterator", data := .fields #[.ref l, .int 0 0] }).get? s.heap.objs.size
              = some (emS w) := Heap.get?_push_of_some _ kHs
          exact ⟨0, Nat.le_refl 0, setR_new_at kGet⟩
        case hR =>
          intro s' c' hm kCnt kSet2
          obtain ⟨h', g2, d', tk', os'⟩ := s'
          have kEg : g2 = s.gens := hm.gens
          have kEd : d' = s.drawn := hm.drawn
          have kEo : os' = s.os := hm.os
          subst kEg; subst kEd; subst kEo
          show wpAny _ _ _ _ _ _
          refine wpAny_pure ?_
          show wpAny _ _ (ret Value.none) _ _ _
          rw [kSz] at kCnt
          refine wpAny_pure ⟨rfl, h', tk', c', rfl, kSet2, kCnt, fun b o e => ?_⟩
          have kB0 : b < s.heap.objs.size := Heap.lt_size e
          have kB1 : b ≠ s.heap.objs.size := Nat.ne_of_lt kB0
          have kB2 : b ≠ (s.heap.push (emS w)).objs.size := by
            rw [Heap.size_push]; exact Nat.ne_of_lt (Nat.lt_succ_of_lt kB0)
          exact hm.heap b o (by simp only [List.mem_cons, List.mem_singleton, List.not_mem_nil, or_false, not_or]; exact ⟨kB1, kB2⟩) (Heap.get?_push_of_some _ (Heap.get?_push_of_some _ e))

      · cases r₂ with
        | error e => exact kR2
        | ok fl₂ =>
          cases fl₂ with
          | ret r =>
            obtain ⟨rfl, h', tk, c', rfl, kSet2, kCnt, kKeep⟩ := kR2
            repeat (any_goals (first | assumption | wp_step))
            exact h _ _ _ kSet2 kCnt kKeep
          | _ => exact kR2.elim
    | _ => exact hr.elim

end
def rSortU (K : PySem.W.Frag) : List V → Hp → VK → Prop := fun vs H Q => ∃ (a : Addr) (ns : List Int), vs = [V.ref a] ∧ (SqL K H a (ns.map V.int) ∨ SqT K H a (ns.map V.int)) ∧ ns.length < 63 ∧
  ∀ (ns' : List Int) (p : Addr), ns'.Pairwise (· < ·) → (∀ k : Int, k ∈ ns' ↔ k ∈ ns) → H p = none → Q (.ref p) (upd H p (.lst (ns'.map V.int)))
theorem pe_sortU {X : Cx} {a : Expr} {ta : TE} {p p2 q pos : Pos} (hc : X.calm = true) (hg : Gl X "sorted") (hm : X.mg "sorted" = none) (hg2 : Gl X "set") (hm2 : X.mg "set" = none) (ha : PE X a ta)
    (na : starEach [a] X.env = (false, eval a X.env) :: starEach [] X.env := by rfl) : PE X (.Call (.Name "sorted" p) [.Call (.Name "set" p2) [a] [] q] [] pos) (fun σ H Q => ta σ H fun x H1 => rSortU X.K [x] H1 Q) := by
  refine ⟨fun pins s σ H Q I h => ?_⟩
  refine Call_ (ld_blt I hg hm boot_sorted ?_)
  refine PyProof.Rows.callWith_builtin1 (PyProof.Rows.args_cons ?_ rfl) rfl rfl
  refine Call_ (ld_blt I hg2 hm2 boot_set ?_)
  refine PyProof.Rows.callWith_type1 (PyProof.Rows.args_cons (thn (ha.run pins s σ H _ I h) fun v s1 ⟨x, H1, I1, r1, q1⟩ => PyProof.Rows.args_nil ?_) na) na rfl
  obtain ⟨l, ns, e1, hq, h63, q1⟩ := q1
  cases e1
  cases r1
  have sb : ns.length + 1 < scanBound := by unfold scanBound; omega
  have fin : ∀ (h' : Heap) (tk c : Nat), SetR X.w h' s1.heap.objs.size (fun j => decide (j ∈ ns)) c → c ≤ ns.length → (∀ b o, s1.heap.get? b = some o → h'.get? b = some o) →
      wpAny (model X.prog X.w) X.A (spliced (backTo pos (starEach [] X.env))) (fun vs s₂ => wpAny (model X.prog X.w) X.A (call (.builtin "sorted") (Value.ref s1.heap.objs.size :: vs)) (EP X pins σ Q) X.xe s₂) X.xe { s1 with heap := h', toks := tk } := fun h' tk c hS hcl hk => by
    refine PyProof.Rows.args_nil ?_
    have I2 : Inv X pins σ H1 { s1 with heap := h', toks := tk } := I1.kept fun b o e => hk b o e
    refine sorted_set hS (I2.ok.hd hc) (by omega) fun s' p out c2 ns' k g o hp hg2 hi hs hm3 hl => ?_
    have hlen : (ns'.map V.int).length ≤ sizeLine := by rw [List.length_map, hl, sizeLine_eq]; omega
    have hn : H1 p = none := I2.hok.fresh hp
    have J : Inv X pins σ (upd H1 p (.lst (ns'.map V.int))) { ({ s1 with heap := h', toks := tk } : Shared) with heap := s'.heap, gens := s'.gens, drawn := s'.drawn, toks := s'.toks } :=
      I2.call (ch := []) (Un.laid k hp hn) (I2.hok.laid k hp ⟨hlen, out.toList, c2, vals_of_ints hi, hg2⟩) (by rw [g]; exact I2.bare) (fun _ z => nomatch z)
    have es : s' = { s1 with heap := s'.heap, gens := s'.gens, drawn := s'.drawn, toks := s'.toks } := by
      cases s'
      cases s1
      cases o
      rfl
    rw [es]
    exact ⟨.ref p, _, J, rfl, q1 ns' p hs (fun z => by rw [hm3 z]; simp) hn⟩
  rcases hq with hq | hq
  · obtain ⟨its, r, pl, hz⟩ := I1.list hq
    exact call_set_lstI ns (I1.ok.hd hc) pl.isList (by simpa using ints_of_vals r) sb fun h' tk c hS hcl hk => fin h' tk c hS hcl hk
  · obtain ⟨its, r, pl, hz⟩ := I1.tuple hq
    exact call_set_tupI ns (I1.ok.hd hc) pl (by simpa using ints_of_vals r) sb fun h' tk c hS hcl hk => fin h' tk c hS hcl hk
end EV
end
section
set_option linter.all false
set_option maxRecDepth 100000
/-! EvUni2: the rules of dict(d), sorted(set(xs)), gcd. -/
namespace EV
open PySem PySem.W L2 PySem.Spec PyProof.Rows
theorem insU_mem (a : Int) : ∀ (l : List Int) (x : Int), x ∈ insU a l ↔ x = a ∨ x ∈ l := by
  intro l
  induction l with
  | nil => intro x; simp [insU]
  | cons b r ih =>
    intro x
    unfold insU
    split
    · simp
    · split
      · rename_i h; subst h; simp
      · simp only [List.mem_cons, ih]
        constructor
        · rintro (h | h | h)
          · exact .inr (.inl h)
          · exact .inl h
          · exact .inr (.inr h)
        · rintro (h | h | h)
          · exact .inr (.inl h)
          · exact .inl h
          · exact .inr (.inr h)
theorem insU_asc (a : Int) : ∀ l : List Int, l.Pairwise (· < ·) → (insU a l).Pairwise (· < ·) := by
  intro l
  induction l with
  | nil => intro _; simp [insU]
  | cons b r ih =>
    intro h
    have hb := List.pairwise_cons.1 h
    unfold insU
    split
    · rename_i hab
      refine List.pairwise_cons.2 ⟨fun x hx => ?_, h⟩
      rcases List.mem_cons.1 hx with e | e
      · omega
      · have := hb.1 x e; omega
    · split
      · exact h
      · rename_i h1 h2
        refine List.pairwise_cons.2 ⟨fun x hx => ?_, ih hb.2⟩
        rcases (insU_mem a r x).1 hx with e | e
        · omega
        · exact hb.1 x e
theorem sortU_mem : ∀ (l : List Int) (x : Int), x ∈ sortU l ↔ x ∈ l := by
  intro l
  induction l with
  | nil => intro x; simp [sortU]
  | cons a r ih => intro x; simp only [sortU, insU_mem, ih, List.mem_cons]
theorem sortU_asc : ∀ l : List Int, (sortU l).Pairwise (· < ·) := by
  intro l
  induction l with
  | nil => simp [sortU]
  | cons a r ih => exact insU_asc a _ ih
/-- ascending lists of the same numbers -/
theorem asc_eq : ∀ {l m : List Int}, l.Pairwise (· < ·) → m.Pairwise (· < ·) → (∀ x, x ∈ l ↔ x ∈ m) → l = m := by
  intro l
  induction l with
  | nil =>
    intro m _ _ h
    cases m with
    | nil => rfl
    | cons b q => have := (h b).2 (by simp); simp at this
  | cons a r ih =>
    intro m h1 h2 h
    cases m with
    | nil => have := (h a).1 (by simp); simp at this
    | cons b q =>
      have ha := List.pairwise_cons.1 h1
      have hb := List.pairwise_cons.1 h2
      have hab : a = b := by
        rcases List.mem_cons.1 ((h a).1 (by simp)) with e | e
        · exact e
        · rcases List.mem_cons.1 ((h b).2 (by simp)) with e2 | e2
          · exact e2.symm
          · have := ha.1 b e2
            have := hb.1 a e
            omega
      subst hab
      rw [ih ha.2 hb.2]
      intro x
      constructor
      · intro hx
        rcases List.mem_cons.1 ((h x).1 (List.mem_cons_of_mem _ hx)) with e | e
        · have := ha.1 x hx; omega
        · exact e
      · intro hx
        rcases List.mem_cons.1 ((h x).2 (List.mem_cons_of_mem _ hx)) with e | e
        · have := hb.1 x hx; omega
        · exact e
section
variable {k : Kx}
theorem psx_rng3a {tg a b c : Expr} {as : As} {p pos : Pos} (hg : Gl k.X "range") (hm : k.X.mg "range" = none) (h : PAs k [a, b, c] as) (hs : starEach [a, b, c] k.X.env = (false, eval a k.X.env) :: starEach [b, c] k.X.env := by rfl) (hpl : (backTo pos (starEach [b, c] k.X.env)).any (·.1) = false := by rfl) :
    PSx k tg (.Call (.Name "range" p) [a, b, c] [] pos) (.rng 3 as) := psx_rng3 (pi_range3 hg hm h.pa hs hpl)
theorem ar_sortU {a : Expr} {as : As} {p p2 q pos : Pos} (hc : k.X.calm = true) (hg : Gl k.X "sorted") (hm : k.X.mg "sorted" = none) (hg2 : Gl k.X "set") (hm2 : k.X.mg "set" = none) (h : PAs k [a] as)
    (na : starEach [a] k.X.env = (false, eval a k.X.env) :: starEach [] k.X.env := by rfl) :
    AR k (.Call (.Name "sorted" p) [.Call (.Name "set" p2) [a] [] q] [] pos) as (rSortU k.X.K) := by
  obtain ⟨ta, h1, m, e⟩ := pas1m h
  show PE k.X _ fun σ H Q => tAs k as σ H fun vs H1 => rSortU _ vs H1 Q
  rw [e]
  exact pe_sortU hc hg hm hg2 hm2 h1 na
theorem prim_sortSet : PrimR k (rSortU k.X.K) (prim .sortSet) := by
  intro Φ H vs ds e Q R h o
  change pSortSet ds = some e at h
  unfold pSortSet at h
  have fin : ∀ (a : Addr) (ns : List Int), (SqL k.X.K H a (ns.map V.int) ∨ SqT k.X.K H a (ns.map V.int)) → (if decide (ns.length < 63) then some (E.l ((sortU ns).map .int)) else none) = some e → rSortU k.X.K [.ref a] H Q := by
    intro a ns hq h
    split at h
    · rename_i hd
      cases h
      refine ⟨a, ns, rfl, hq, of_decide_eq_true hd, fun ns' p hs hm hn => ?_⟩
      rw [asc_eq hs (sortU_asc ns) fun x => by rw [hm x, sortU_mem]]
      exact o.l (RDs.ofInts _) p hn
    · cases h
  split at h
  · rename_i xs
    obtain ⟨v, rfl, r⟩ := R.one
    cases hs : asI xs with
    | none => rw [hs] at h; cases h
    | some ns =>
      rw [hs, Option.bind_some] at h
      obtain ⟨a, us, rfl, ho, r⟩ := r.lstI
      rw [r.ints hs] at ho
      exact fin a ns (.inl (SqL.of ho)) h
  · rename_i xs
    obtain ⟨v, rfl, r⟩ := R.one
    cases hs : asI xs with
    | none => rw [hs] at h; cases h
    | some ns =>
      rw [hs, Option.bind_some] at h
      obtain ⟨a, us, rfl, ho, r⟩ := r.tupI
      rw [r.ints hs] at ho
      exact fin a ns (.inr (SqT.of ho)) h
  · cases h
def rDictD : List V → Hp → VK → Prop := fun xs H Q => ∃ (a : Addr) (kvs : List (Key × V)), xs = [.ref a] ∧ Rd H a (.dK kvs) ∧ ∀ p, H p = none → Q (.ref p) (upd H p (.dK kvs))
theorem cr_dictD : CallR k.X (.type "dict") rDictD := call_dictD
theorem prim_dictK : PrimR k rDictD (prim .dictK) := by
  intro Φ H vs ds e Q R h o
  change pDictK ds = some e at h
  unfold pDictK at h
  split at h
  · rename_i kvs
    cases h
    obtain ⟨v, rfl, r⟩ := R.one
    obtain ⟨a, ws, rfl, ho, r⟩ := r.dkI
    refine ⟨a, ws, rfl, Or.inl ho, fun p hp => ?_⟩
    have f : Fresh H (upd H p (.dK ws)) [p] := Fresh.one hp trivial
    exact o _ _ _ f (.dk upd_same (r.stay f.stay))
  · cases h
theorem prim_gcd : PrimR k rGcd (prim .gcd) := by
  intro Φ H vs ds e Q R h o
  change pGcd ds = some e at h
  unfold pGcd at h
  split at h
  · rename_i a b
    cases h
    cases R with
    | cons r1 R =>
      cases R with
      | cons r2 R =>
        cases R
        cases r1.intI
        cases r2.intI
        exact ⟨_, _, rfl, o.d (.int _)⟩
  · cases h
end
end EV
end
section
set_option linter.all false
set_option maxRecDepth 100000
/-! EvPar: several at once where the tuple is built first. -/
namespace EV
open PySem PySem.W L2 PySem.Spec PyProof.Rows
def As.cnt : As → Nat
  | .nil => 0
  | .slt _ r => r.cnt + 1
  | .x _ r => r.cnt + 1
theorem evAs_len {c : Calls} : ∀ {as : As} {ρ ρ' : Env} {args : List Arg}, evAs c as ρ = .ok (args, ρ') → args.length = as.cnt
  | .nil, ρ, ρ', args, h => by cases h; rfl
  | .slt i r, ρ, ρ', args, h => by
    unfold evAs at h
    split at h
    · obtain ⟨⟨a1, a2⟩, h1, h⟩ := R.bind_ok h
      cases h
      show a1.length + 1 = r.cnt + 1
      rw [evAs_len h1]
    · cases h
  | .x e r, ρ, ρ', args, h => by
    unfold evAs at h
    obtain ⟨⟨e1, ρ1⟩, _, h⟩ := R.bind_ok h
    obtain ⟨⟨a1, a2⟩, h1, h⟩ := R.bind_ok h
    cases h
    show a1.length + 1 = r.cnt + 1
    rw [evAs_len h1]
section
variable {k : Kx} {n : Nat} {W : List Nat} {Φ Φ' : Frz} {H H' : Hp} {σ σ' : L2.St} {ρ ρ' : Env} {fp fp' : Fp} {G G' : List Addr}
inductive RVE (K : PySem.W.Frag) (fa : Nat → Addr) (Φ : Frz) (H : Hp) : List V → List E → List Addr → Prop
  | nil : RVE K fa Φ H [] [] []
  | cons {v : V} {vs : List V} {e : E} {es : List E} {l G : List Addr} : EV.RE K fa Φ H v e l → RVE K fa Φ H vs es G → RVE K fa Φ H (v :: vs) (e :: es) (G ++ l)
theorem rve_of {K : PySem.W.Frag} {fa : Nat → Addr} : ∀ {args : List Arg} {vs : List V} {es : List E} {G : List Addr}, RAs K fa Φ H σ vs args G → AllV args → fillE ρ args = some es → RVE K fa Φ H vs es G ∧ vs.length = args.length ∧ es.length = args.length := by
  intro args
  induction args with
  | nil => intro vs es G ra hv hf; cases ra; cases hf; exact ⟨.nil, rfl, rfl⟩
  | cons a r ih =>
    intro vs es G ra hv hf
    cases ra with
    | s h1 h2 =>
      cases hv
    | v h1 h2 =>
      obtain ⟨es', rfl, hf2⟩ := fillE_v hf
      obtain ⟨r1, r2, r3⟩ := ih h2 (by cases hv; assumption) hf2
      exact ⟨.cons h1 r1, by simp [r2], by simp [r3]⟩
theorem RVE.wait {K : PySem.W.Frag} {fa : Nat → Addr} {vs : List V} {es : List E} {G0 : List Addr} (s : EV.Sta K fa Φ H σ ρ fp G0) (st : Stp Φ H fp Φ' H' fp' G') (r : RVE K fa Φ H vs es G) (h : ∀ a ∈ G, a ∈ G0) : RVE K fa Φ' H' vs es G := by
  induction r with
  | nil => exact .nil
  | cons a _ ih => exact .cons (RE.wait s st a fun x hx => h x (List.mem_append_right _ hx)) (ih fun x hx => h x (List.mem_append_left _ hx))
theorem gNs_par : ∀ (is : List Nat) {vs : List V} {es : List E} {G : List Addr} {σ : L2.St} {ρ : Env} {fp : Fp} {Q : L2.St → Hp → Prop}, RVE k.X.K k.fa Φ H vs es G → k.Sta Φ H σ ρ fp G → vs.length = is.length →
    (∀ σ1 fp1, k.Sta Φ H σ1 ((is.zip es).foldl (fun ρ p => put ρ p.1 (some p.2)) ρ) fp1 [] → (∀ a, own fp1 a → own fp a ∨ a ∈ G) → (∀ j, j ∉ is → σ1[j]? = σ[j]?) → σ1.length = σ.length → Q σ1 H) → gNs is vs σ H Q
  | [], vs, es, G, σ, ρ, fp, Q, r, S, hl, q => by
    cases r with
    | nil => exact ⟨rfl, q σ fp S (fun a z => .inl z) (fun _ _ => rfl) rfl⟩
    | cons a b => simp at hl
  | i :: is, vs, es, G, σ, ρ, fp, Q, r, S, hl, q => by
    cases r with
    | nil => simp at hl
    | @cons v vs e es l G2 a b =>
      obtain ⟨fp2, S2, o2⟩ := Sta.putG (i := i) S a
      refine ⟨v, vs, rfl, gNs_par is b S2 (by simpa using hl) fun σ1 fp3 S3 o3 h1 h2 => q σ1 fp3 S3 (fun x z => ?_) (fun j hj => ?_) (by rw [h2, List.length_set])⟩
      · rcases o3 x z with z | z
        · exact (o2 x z).imp id (List.mem_append_right _)
        · exact .inr (List.mem_append_left _ z)
      · rw [h1 j fun z => hj (List.mem_cons_of_mem _ z)]
        exact List.getElem?_set_ne (fun e => hj (by rw [e]; exact List.mem_cons_self))
theorem pst_parT {es tgs : List Expr} {as : As} {is : List Nat} {kt k2 : Nat} {pt pt2 pos : Pos} (ok : SOk k n) (h : PAs k es as) (hg : PGs k.X tgs (gNs is)) (hn : as.noS = true := by rfl) (hc : as.cnt = is.length := by rfl) (hz : is.length ≤ 1000 := by decide) (hwi : ∀ i ∈ is, i ∈ W := by decide)
    (ha : (assignEach tgs k.X.env).length = is.length := by rfl) (hst : (assignEach tgs k.X.env).findIdx? (·.1) = none := by rfl) (hs : swapsWithSole [.Tuple tgs kt pt] (.Tuple es k2 pt2) pos.line k.X.env = pure false := by rfl) (hsw : swappedStores [.Tuple tgs kt pt] (.Tuple es k2 pt2) k.X.env = pure none := by rfl)
    (h1 : (assignEach [.Tuple tgs kt pt] k.X.env).map (·.2) = [assign (.Tuple tgs kt pt) k.X.env] := by rfl) : PSt k W (.Assign [.Tuple tgs kt pt] (.Tuple es k2 pt2) pos) (.par is as) :=
  ps_of (ps_asg (ar_tup h) (pg_tp ok.calm hg ha hst) hs hsw h1) fun D σ H q => par_tas hn q fun vs es args ρ0 ρ1 Φ1 H1 fp1 G1 Φ0 H0 fp0 he st S1 ra hv hf T1 q => by
    obtain ⟨rv, l1, l2⟩ := rve_of ra hv hf
    have hl : vs.length = is.length := by rw [l1, evAs_len he, hc]
    refine ⟨by rw [hl, sizeLine_eq]; omega, fun p hp => .inl ⟨p, vs, rfl, SqT.of upd_same, hl, ?_⟩⟩
    have fr : Fresh H1 (upd H1 p (.tup vs)) [] := Fresh.tup hp
    obtain ⟨Sf, stf⟩ := S1.temp.fresh fr
    have S2 := S1.frame stf Sf
    rw [List.nil_append] at S2
    have rv2 := rv.wait S1 stf fun _ z => z
    refine gNs_par is rv2 S2 hl fun σ1 fp2 S3 o3 hj hlen => q σ1 _ _ fp2 ⟨(st.trans2 stf).ext, fun a z => ?_⟩ S3 (T1.ext fr.keep) ⟨fun j hj' => hj j fun z => hj' (hwi j z), hlen⟩
    rcases z with z | z
    · exact (o3 a z).elim (fun z => st.sub a (.inl z)) fun z => st.sub a (.inr z)
    · cases z
end
end EV
end
section
set_option linter.all false
set_option maxRecDepth 100000
/-! EvFn: defs. -/
namespace EV
open PySem PySem.W L2 PySem.Spec PyProof.Rows
/-- names as targets; names stored -/
theorem pgN {X : Cx} (i : Nat) {x : Str} {pos : Pos} (hN : X.N.Nodup) (hi : X.N[i]? = some x := by rfl) (hx : Loc X.env.scope x := by first | exact .inl rfl | exact .inr rfl) (hf : X.fn x = true ∨ X.env.scope.names.lookup x = some .local := by first | exact .inl rfl | exact .inr rfl) : PG X (.Name x pos) (gName i) := pg_name hN hi hx hf
theorem pst_asgA {k : Kx} {n : Nat} {W : List Nat} {i : Nat} {y : Str} {e : Expr} {x : X} {p pos : Pos} (ok : SOk k n) (hi : k.X.N[i]? = some y) (h : PX k e x) (hy : Loc k.X.env.scope y := by first | exact .inl rfl | exact .inr rfl) (hf : k.X.fn y = true ∨ k.X.env.scope.names.lookup y = some .local := by first | exact .inl rfl | exact .inr rfl) (hw : i ∈ W := by decide) (hs : swapsWith e (some (.Name y p)) pos.line k.X.env = pure false := by rfl) : PSt k W (.Assign [.Name y p] e pos) (.asg i x) :=
  ps_of (ps_set ok.nd hi hy h hs hf) fun D σ H q => asg_tx hw q
/-- the law's world -/
structure Lw where
  P : Program
  w : World
  K : PySem.W.Frag
  mg : Str → Option Value
  base : Heap
  T : List (Addr × Str)
  fa : Nat → Addr
  ca : Nat → Addr
abbrev Lw.kx (L : Lw) (c : Calls) (N : List Str) (qual : Str) (scope : Scope) (f : Addr) (cd : Value) (A : Around) (outer : List PySem.Env) (s : Shared) (H : Hp) (E' : XK) : Kx :=
  ⟨cxOf (L2N.CX L.P L.w) L.P L.w L.K L.mg L.base N qual scope f cd A outer s H E', c, E', L.T, L.fa, L.ca⟩
def FnAtL (L : Lw) (n : Nat) (call : List E → R (E × List (Option E))) (f : Nat) : Prop := ∃ fd ps, FnOk L.P L.w L.K L.mg L.base (L2N.CX L.P L.w) n (L.fa f) fd ps (spD L.K L.fa L.ca L.T call) ∧ PySem.W.keepIn L.K (.ref (L.fa f)) = true ∧ Binds L.K fd ps []
section
variable {K : PySem.W.Frag} {fa : Nat → Addr} {Φ Φ' : Frz} {H H' : Hp} {σ σ' : L2.St} {ρ ρ' : Env} {fp fp' : Fp} {G G' : List Addr}
theorem REs.length {vs : List V} {es : List E} {Ls : List (List Addr)} (r : REs K fa Φ H vs es Ls) : vs.length = es.length ∧ Ls.length = es.length := by
  induction r with
  | nil => exact ⟨rfl, rfl⟩
  | cons a b ih => exact ⟨by rw [List.length_cons, List.length_cons, ih.1], by rw [List.length_cons, List.length_cons, ih.2]⟩
theorem REs.get {vs : List V} {es : List E} {Ls : List (List Addr)} (r : REs K fa Φ H vs es Ls) : ∀ {i : Nat} {e : E}, es[i]? = some e → ∃ v l, vs[i]? = some v ∧ Ls[i]? = some l ∧ RE K fa Φ H v e l := by
  induction r with
  | nil => intro i e h; cases h
  | cons a b ih =>
    intro i e h
    cases i with
    | zero => cases h; exact ⟨_, _, rfl, rfl, a⟩
    | succ i => exact ih h
theorem look_rep (n i : Nat) : look (List.replicate n none) i = none := by
  induction n generalizing i with
  | zero => cases i <;> rfl
  | succ n ih => cases i with
    | zero => rfl
    | succ i => exact ih i
theorem look_ent (io : List Nat) (n : Nat) : ∀ (es : List E) (j i : Nat), look (entE io j es ++ List.replicate n none) i = (es[i]?).map fun e => if io.contains (j + i) then e else .d e.frz
  | [], j, i => by
    show look (List.replicate n none) i = _
    rw [look_rep]; rfl
  | e :: es, j, 0 => by
    show (if io.contains j then some e else some (.d e.frz)) = some (if io.contains (j + 0) then e else .d e.frz)
    rw [Nat.add_zero]
    cases io.contains j <;> rfl
  | e :: es, j, i + 1 => by
    show look (entE io (j + 1) es ++ List.replicate n none) i = _
    rw [look_ent io n es (j + 1) i]
    have : j + 1 + i = j + (i + 1) := by omega
    rw [this]
    rfl
theorem ent_length (io : List Nat) : ∀ (es : List E) (j : Nat), (entE io j es).length = es.length
  | [], _ => rfl
  | e :: es, j => by show (entE io (j + 1) es).length + 1 = _; rw [ent_length io es (j + 1)]; rfl
theorem start_get {N : List Str} {vs : List V} {i : Nat} {v : V} (h : vs[i]? = some v) : (L2.start N vs)[i]? = some (some v) := by
  unfold L2.start
  rw [List.getElem?_append_left (by rw [List.length_map]; exact (List.getElem?_eq_some_iff.mp h).1), List.getElem?_map, h]
  rfl
theorem nodup_ix {Ls : List (List Addr)} (h : Ls.flatten.Nodup) : ∀ {i j : Nat} {l m : List Addr} {a : Addr}, Ls[i]? = some l → Ls[j]? = some m → a ∈ l → a ∈ m → i = j := by
  induction Ls with
  | nil => intro i j l m a h1; cases h1
  | cons x Ls ih =>
    rw [List.flatten_cons] at h
    obtain ⟨h1, h2, h3⟩ := List.nodup_append.mp h
    intro i j l m a e1 e2 m1 m2
    cases i with
    | zero =>
      cases e1
      cases j with
      | zero => rfl
      | succ j => exact absurd rfl (h3 a m1 a (List.mem_flatten.mpr ⟨m, List.mem_of_getElem? e2, m2⟩))
    | succ i =>
      cases j with
      | zero => cases e2; exact absurd rfl (h3 a m2 a (List.mem_flatten.mpr ⟨l, List.mem_of_getElem? e1, m1⟩))
      | succ j => rw [ih h2 e1 e2 m1 m2]
theorem nodup_at {Ls : List (List Addr)} (h : Ls.flatten.Nodup) {i : Nat} {l : List Addr} (e : Ls[i]? = some l) : l.Nodup := by
  induction Ls generalizing i with
  | nil => cases e
  | cons x Ls ih =>
    rw [List.flatten_cons] at h
    obtain ⟨h1, h2, h3⟩ := List.nodup_append.mp h
    cases i with
    | zero => cases e; exact h1
    | succ i => exact ih h2 e
/-- what is frozen at the entry -/
def frzIn (Φ : Frz) (io : List Nat) (Ls : List (List Addr)) : Frz := fun a => Φ a ∨ ∃ i l, Ls[i]? = some l ∧ a ∈ l ∧ io.contains i = false
def fpIn (io : List Nat) (Ls : List (List Addr)) : Fp := fun i => if io.contains i then (Ls[i]?).getD [] else []
theorem fpIn_mem {io : List Nat} {Ls : List (List Addr)} {i : Nat} {a : Addr} (h : a ∈ fpIn io Ls i) : ∃ l, Ls[i]? = some l ∧ a ∈ l ∧ io.contains i = true := by
  unfold fpIn at h
  by_cases e : io.contains i = true
  · rw [if_pos e] at h
    cases q : Ls[i]? with
    | none => rw [q] at h; cases h
    | some l => rw [q] at h; exact ⟨l, rfl, h, e⟩
  · rw [if_neg e] at h; cases h
theorem mem_flat {Ls : List (List Addr)} {i : Nat} {l : List Addr} {a : Addr} (e : Ls[i]? = some l) (h : a ∈ l) : a ∈ Ls.flatten := List.mem_flatten.mpr ⟨l, List.mem_of_getElem? e, h⟩
theorem enter_sta {io : List Nat} {N : List Str} {vs : List V} {es : List E} {Ls : List (List Addr)} (r : REs K fa Φ H vs es Ls) (nd : Ls.flatten.Nodup) (w : Wd Φ H (fun a => a ∈ Ls.flatten)) :
    EV.Sta K fa (frzIn Φ io Ls) H (L2.start N vs) (entE io 0 es ++ List.replicate (N.length - es.length) none) (fpIn io Ls) [] ∧ Ext (fun a => a ∈ Ls.flatten) Φ H (frzIn Φ io Ls) H ∧ ∀ a, own (fpIn io Ls) a → a ∈ Ls.flatten := by
  have sub : ∀ a, own (fpIn io Ls) a → a ∈ Ls.flatten := fun a ⟨i, h⟩ => let ⟨l, e, m, _⟩ := fpIn_mem h; mem_flat e m
  refine ⟨⟨⟨fun i e h => ?_, fun i h => ?_, fun i => ?_, fun i j a h1 h2 => ?_, ?_⟩, ⟨fun a z q => ?_, fun a z => ?_, fun a z => ?_⟩, List.nodup_nil, fun a z => nomatch z⟩, ⟨fun a z => .inl z, fun a z => z.imp id fun ⟨i, l, e, m, _⟩ => .inl (mem_flat e m), fun _ _ e _ _ => e, fun _ e => e⟩, sub⟩
  · rw [look_ent, Nat.zero_add] at h
    cases q : es[i]? with
    | none => rw [q] at h; cases h
    | some e0 =>
      rw [q] at h
      obtain ⟨v, l, h1, h2, re⟩ := r.get q
      have h : (if io.contains i = true then e0 else .d e0.frz) = e := Option.some.inj h
      refine ⟨v, start_get h1, ?_⟩
      by_cases c : io.contains i = true
      · rw [if_pos c] at h
        subst h
        have : fpIn io Ls i = l := by unfold fpIn; rw [if_pos c, h2]; rfl
        rw [this]
        exact re.stay fun _ z => .inl z
      · rw [if_neg c] at h
        subst h
        have : fpIn io Ls i = [] := by unfold fpIn; rw [if_neg c]
        rw [this]
        exact .d (re.frz (fun _ z => .inl z) fun a z => .inr ⟨i, l, h2, z, by simpa using c⟩)
  · rw [look_ent, Nat.zero_add] at h
    cases q : es[i]? with
    | none =>
      unfold fpIn
      split
      · have : Ls[i]? = none := by
          rw [List.getElem?_eq_none_iff] at q ⊢
          rw [r.length.2]; exact q
        rw [this]; rfl
      · rfl
    | some e0 => rw [q] at h; cases h
  · unfold fpIn
    split
    · cases q : Ls[i]? with
      | none => exact List.nodup_nil
      | some l => exact nodup_at nd q
    · exact List.nodup_nil
  · obtain ⟨l, e1, m1, _⟩ := fpIn_mem h1
    obtain ⟨m, e2, m2, _⟩ := fpIn_mem h2
    exact nodup_ix nd e1 e2 m1 m2
  · unfold L2.start
    rw [List.length_append, List.length_append, List.length_map, List.length_replicate, List.length_replicate, ent_length, r.length.1]
  · rcases z with z | z
    · rcases q with q | ⟨j, m, e2, m2, c2⟩
      · exact w.nf a (sub a z) q
      · obtain ⟨i, z⟩ := z
        obtain ⟨l, e1, m1, c1⟩ := fpIn_mem z
        have := nodup_ix nd e1 e2 m1 m2
        subst this
        rw [c1] at c2
        cases c2
    · cases z
  · rcases z with z | ⟨i, l, e, m, _⟩
    · exact w.tr a z
    · intro q
      have := w.mu a (mem_flat e m)
      rw [q] at this; exact this
  · rcases z with z | z
    · exact w.mu a (sub a z)
    · cases z
/-- what the in-out parameters hold at the end -/
def lsOut (io : List Nat) (fp : Fp) : Nat → Nat → List (List Addr)
  | _, 0 => []
  | j, n + 1 => (if io.contains j then fp j else []) :: lsOut io fp (j + 1) n
theorem outs_ros {io : List Nat} (S : EV.Sta K fa Φ H σ ρ fp G) : ∀ (vs : List V) (j : Nat) {os : List (Option E)}, (∀ t v, vs[t]? = some v → io.contains (j + t) = true → σ[j + t]? = some (some v)) → outE io ρ j vs.length = some os → ROs K fa Φ H vs os (lsOut io fp j vs.length)
  | [], j, os, _, h => by cases h; exact .nil
  | v :: vs, j, os, hv, h => by
    have h : (match outE io ρ (j + 1) vs.length with
      | some r => if io.contains j then (look ρ j).map fun e => some e :: r else some (none :: r)
      | none => none) = some os := h
    cases q : outE io ρ (j + 1) vs.length with
    | none => rw [q] at h; cases h
    | some r =>
      rw [q] at h
      have ih := outs_ros S vs (j + 1) (fun t u e c => by
        have h1 : j + 1 + t = j + (t + 1) := by omega
        rw [h1] at c ⊢
        exact hv (t + 1) u e c) q
      replace h : (if io.contains j then (look ρ j).map fun e => some e :: r else some (none :: r)) = some os := h
      show ROs K fa Φ H (v :: vs) os ((if io.contains j then fp j else []) :: lsOut io fp (j + 1) vs.length)
      by_cases c : io.contains j = true
      · rw [if_pos c] at h
        rw [if_pos c]
        cases e : look ρ j with
        | none => rw [e] at h; cases h
        | some e0 =>
          rw [e] at h
          cases h
          obtain ⟨u, h1, re⟩ := S.env.at_ j e0 e
          have h2 := hv 0 v rfl c
          rw [Nat.add_zero, h1] at h2
          cases h2
          exact .s re ih
      · rw [if_neg c] at h
        rw [if_neg c]
        cases h
        exact .n ih
theorem lsOut_mem {io : List Nat} {a : Addr} : ∀ {n j : Nat}, a ∈ (lsOut io fp j n).flatten → ∃ t, t < n ∧ a ∈ fp (j + t)
  | 0, j, h => by cases h
  | n + 1, j, h => by
    have h : a ∈ ((if io.contains j then fp j else []) :: lsOut io fp (j + 1) n).flatten := h
    rw [List.flatten_cons] at h
    rcases List.mem_append.mp h with h | h
    · split at h
      · exact ⟨0, Nat.succ_pos _, h⟩
      · cases h
    · obtain ⟨t, ht, h⟩ := lsOut_mem h
      refine ⟨t + 1, by omega, ?_⟩
      have : j + 1 + t = j + (t + 1) := by omega
      rw [← this]; exact h
theorem lsOut_nd {io : List Nat} (nd : ∀ i, (fp i).Nodup) (inj : ∀ i j a, a ∈ fp i → a ∈ fp j → i = j) : ∀ {n j : Nat}, (lsOut io fp j n).flatten.Nodup
  | 0, j => List.nodup_nil
  | n + 1, j => by
    show ((if io.contains j then fp j else []) :: lsOut io fp (j + 1) n).flatten.Nodup
    rw [List.flatten_cons]
    refine List.nodup_append.mpr ⟨?_, lsOut_nd nd inj, fun a ha b hb e => ?_⟩
    · split
      · exact nd j
      · exact List.nodup_nil
    · subst e
      obtain ⟨t, ht, h⟩ := lsOut_mem hb
      split at ha
      · have := inj j (j + 1 + t) a ha h
        omega
      · cases ha
end
/-- a def's body, from its arguments -/
theorem def_body {k : Kx} {W : List Nat} {N : List Str} {d : Def} {vs : List V} {H : Hp} {Q : VK} {E' : XK} (hE : k.wx = E') (hnv : d.nv = N.length) (hio : ∀ i ∈ d.io, i ∉ W) (h : spD k.X.K k.fa k.ca k.T (evD k.c d) vs H Q E') : TSsx k W d.body { nx := fun _ H' => Q .non H', rt := Q } (L2.start N vs) H := by
  obtain ⟨es, Φ, Ls, r, nd, w, T, q⟩ := h
  subst hE
  unfold evD at q
  cases he : enter d es with
  | none => rw [he] at q; exact q.elim
  | some ρ =>
    rw [he] at q
    unfold enter at he
    split at he
    · rename_i hlen
      cases he
      obtain ⟨S, x0, sub⟩ := enter_sta (io := d.io) (N := N) r nd w
      have hcount : d.nv - d.np = N.length - es.length := by rw [hnv, hlen]
      rw [hcount] at q
      have hvs : vs.length = d.np := by rw [r.length.1, hlen]
      refine ⟨_, _, _, S, T, ?_⟩
      have key : ∀ {σ' : L2.St} {Φ' : Frz} {H' : Hp} {fp' : Fp} {G' : List Addr} {ρ' : Env} {e : E} {os : List (Option E)} {v : V}, Stp (frzIn Φ d.io Ls) H (fpIn d.io Ls) Φ' H' fp' G' → k.Sta Φ' H' σ' ρ' fp' G' → k.RE Φ' H' v e G' → k.Tb H' → Kept W (L2.start N vs) σ' → outs d ρ' = some os →
          PostC k.X.K k.fa k.ca k.T Φ H Ls vs Q k.wx (.ok (e, os)) → Q v H' := fun {σ' Φ' H' fp' G' ρ' e os v} st S' re T' kp ho q => by
        have ros := outs_ros (io := d.io) S' vs 0 (os := os) (fun t u e c => by
          rw [Nat.zero_add] at c ⊢
          rw [kp.1 t (hio t (by simpa using c))]
          exact start_get e) (by rw [hvs]; exact ho)
        have lm : ∀ a, a ∈ (lsOut d.io fp' 0 vs.length).flatten → own fp' a := fun a z => let ⟨t, _, z⟩ := lsOut_mem z; ⟨_, z⟩
        refine q v Φ' H' G' _ (x0.trans st.ext fun a z => .inl (sub a z)) (S'.wd.sub fun a z => z.elim .inr fun z => .inl (lm a z)) (List.nodup_append.mpr ⟨S'.gnd, lsOut_nd S'.env.nd S'.env.inj, fun a ha b hb e => S'.gn a ha (lm a (e ▸ hb))⟩) (fun a z => ?_) re ros T'
        rcases z with z | z
        · exact (st.sub a (.inr z)).imp (sub a) id
        · exact (st.sub a (.inl (lm a z))).imp (sub a) id
      replace q : PostC k.X.K k.fa k.ca k.T Φ H Ls vs Q k.wx (match evSs k.c d.body (entE d.io 0 es ++ List.replicate (N.length - es.length) none) with
        | .nx ρ' => (R.ofO (outs d ρ')).bind fun os => .ok (.d .non, os)
        | .rt e ρ' => (R.ofO (outs d ρ')).bind fun os => .ok (e, os)
        | .exc k => .exc k
        | _ => .bad) := q
      cases hs : evSs k.c d.body (entE d.io 0 es ++ List.replicate (N.length - es.length) none) with
      | bad => rw [hs] at q; exact q.elim
      | bk ρ' => rw [hs] at q; exact q.elim
      | ct ρ' => rw [hs] at q; exact q.elim
      | exc n =>
        rw [hs] at q
        exact fun Φ' H' x w' t => q Φ' H' (x0.trans x fun a z => .inl (sub a z)) w' t
      | nx ρ' =>
        rw [hs] at q
        intro σ' Φ' H' fp' st S' T' kp
        replace q : PostC k.X.K k.fa k.ca k.T Φ H Ls vs Q k.wx ((R.ofO (outs d ρ')).bind fun os => .ok (.d .non, os)) := q
        cases ho : outs d ρ' with
        | none => rw [ho] at q; exact q.elim
        | some os => rw [ho] at q; exact key st S' (.d .non) T' kp ho q
      | rt e ρ' =>
        rw [hs] at q
        intro v σ' Φ' H' fp' G' st S' re T' kp
        replace q : PostC k.X.K k.fa k.ca k.T Φ H Ls vs Q k.wx ((R.ofO (outs d ρ')).bind fun os => .ok (e, os)) := q
        cases ho : outs d ρ' with
        | none => rw [ho] at q; exact q.elim
        | some os => rw [ho] at q; exact key st S' re T' kp ho q
    · cases he
/-- a call that never ends well promises nothing -/
theorem spD_bad {L : Lw} {call : List E → R (E × List (Option E))} (h : ∀ es, call es = .bad) {vs : List V} {H : Hp} {Q : VK} {E' : XK} : ¬ spD L.K L.fa L.ca L.T call vs H Q E' := by
  rintro ⟨es, Φ, Ls, r, nd, w, T, q⟩
  rw [h es] at q
  exact q
/-- what is known of a def -/
structure DefTx (L : Lw) (f : Nat) (d : Def) (N ps : List Str) (x : Str) (params : Arguments) (body : List Stmt) (scope : Scope) (W : List Nat) : Prop where
  fun_ : ∃ fd, FunD L.K x x params body scope [] [] (L.fa f) fd ∧ Binds L.K fd ps []
  sc : FnScope N ps scope
  np : d.np = ps.length
  nv : d.nv = N.length
  io : ∀ i ∈ d.io, i ∉ W
/-- the def's own code object -/
def CodeAt (L : Lw) (f : Addr) (cdv : Value) : Prop := ∃ oc od osl fd, L.K.lookup f = some ⟨oc, od, .func fd, osl⟩ ∧ fd.code = cdv ∧ ∃ c, cdv = .ref c
/-- .. and of its body -/
def BodyOk (L : Lw) (p : Prg) (fi : Nat) (d : Def) (N : List Str) (x : Str) (body : List Stmt) (scope : Scope) (W : List Nat) : Prop :=
  ∀ (n : Nat) (f : Addr) (cdv : Value) (A : Around) (outer : List PySem.Env) (s : Shared) (H : Hp) (E' : XK), f = L.fa fi → CodeAt L f cdv → SOk (L.kx (mkCalls p n (runs p n)) N x scope f cdv A outer s H E') n → PSts (L.kx (mkCalls p n (runs p n)) N x scope f cdv A outer s H E') W body d.body
def DefOk (L : Lw) (p : Prg) (f : Nat) (d : Def) : Prop := ∃ N ps x params body scope W, DefTx L f d N ps x params body scope W ∧ BodyOk L p f d N x body scope W
theorem evD_len {c : Calls} {d : Def} {es : List E} (h : evD c d es ≠ .bad) : es.length = d.np := by
  unfold evD at h
  cases he : enter d es with
  | none => rw [he] at h; exact absurd rfl h
  | some ρ =>
    unfold enter at he
    split at he
    · assumption
    · cases he
theorem runs_3 (p : Prg) : ∀ n, (∀ f, (runs p n).2.2 f = (runs p (n - 2)).1 f) ∨ ∀ f es, (runs p n).2.2 f es = .bad
  | 0 => .inr fun _ _ => rfl
  | 1 => .inr fun _ _ => rfl
  | n + 2 => .inl fun f => rfl
theorem fn_all {L : Lw} {p : Prg} (hd : ∀ f d, p.defs[f]? = some d → DefOk L p f d) (h0 : ∀ f, ∃ fd ps, PySem.W.keepIn L.K (.ref (L.fa f)) = true ∧ Binds L.K fd ps []) : ∀ n f, FnAtL L n ((runs p n).1 f) f := by
  have bad : ∀ n f (call : List E → R (E × List (Option E))), (∀ es, call es = .bad) → FnAtL L n call f := fun n f call hb => by
    obtain ⟨fd, ps, h1, h2⟩ := h0 f
    exact ⟨fd, ps, ⟨fun vs H Q E q => absurd q (spD_bad hb), fun A outer s H args us vs Q E _ _ _ _ q => absurd q (spD_bad hb)⟩, h1, h2⟩
  intro n
  induction n using Nat.strongRecOn with
  | _ n ih =>
    intro f
    cases n with
    | zero => exact bad 0 f _ fun _ => rfl
    | succ n =>
      cases hf : p.defs[f]? with
      | none => exact bad (n + 1) f _ fun es => by show (match p.defs[f]? with | some d => evD (mkCalls p n (runs p n)) d es | none => R.bad) = .bad; rw [hf]
      | some d =>
        obtain ⟨N, ps, x, params, body, scope, W, tx, hb⟩ := hd f d hf
        obtain ⟨fd, F, hbd⟩ := tx.fun_
        have ec : (runs p (n + 1)).1 f = evD (mkCalls p n (runs p n)) d := by
          funext es
          show (match p.defs[f]? with | some d => evD (mkCalls p n (runs p n)) d es | none => R.bad) = _
          rw [hf]
        rw [ec]
        have kp := F.kp
        obtain ⟨oc, od, dV, kV, doc, pm, an, cdv, ct, osl, rfl, lk, hcd, _, _⟩ := F.ex
        refine ⟨_, ps, fn_of lk hcd tx.sc (fun vs H Q E q => ?_) (fun A outer s H vs Q E hr q => ⟨_, hb n _ cdv A outer s H E rfl ⟨oc, od, osl, _, lk, rfl, He.codeIn_ref hcd⟩ ?_, def_body (k := L.kx (mkCalls p n (runs p n)) N x scope (L.fa f) cdv A outer s H E) rfl tx.nv tx.io q⟩), kp, hbd⟩
        · obtain ⟨es, Φ, Ls, r, nd, w, T, q⟩ := q
          rw [r.length.1, ← tx.np]
          exact evD_len fun z => by rw [z] at q; exact q
        · have tk : L2N.Takes (cxOf (L2N.CX L.P L.w) L.P L.w L.K L.mg L.base N x scope (L.fa f) cdv A outer s H E) (fun cls d _ H => E cls d H) := L2N.takes_of rfl rfl rfl rfl
          refine ⟨⟨rfl, ?hu, hr, L2N.passes_call tk fun _ _ _ _ h => h, fun g => ih n (Nat.lt_succ_self n) g⟩, tk, passes_of rfl, tx.sc.nd, fun g => ?_, fun h => of_decide_eq_true h⟩
          case hu =>
            have := hr.un
            show (A.deeper (envOfC x scope s.heap.objs.size (L.fa f) cdv)).units + 66 < cLine
            omega
          rcases runs_3 p n with h | h
          · have z := ih (n - 2) (by omega) g
            show FnAtL L (n - 2) ((runs p n).2.2 g) g
            rw [h g]
            exact z
          · exact bad (n - 2) g _ (h g)
end EV
end
section
set_option linter.all false
set_option maxRecDepth 100000
/-! EvHot: in the suite of an except clause: a list walked by a comprehension, pairs taken apart. -/
namespace EV
open PySem PySem.W L2 PySem.Spec PyProof.Rows HotX
section
variable {prog : Program} {w : World} {A : Around} {E' : Value → Shared → Prop} {s : Shared}
theorem hot_ne {x1 it : Addr} {o : Obj} {a b : Value} (hot : HotAt A x1 s.heap) (ho : s.heap.get? it = some o) (hd : o.data = .fields #[a, b]) : x1 ≠ it := fun z => by
  obtain ⟨_, o1, vs1, h1, d1, c1⟩ := hot
  rw [z, ho] at h1
  cases h1
  rw [hd] at d1
  cases d1
  simp at c1
theorem next_list_end_hot {it l x1 : Addr} {i : Nat} {items : Array Value} {Q : Option Value → Shared → Prop} (hot : HotAt A x1 s.heap)
    (hit : s.heap.IsListIter it l i) (hl : s.heap.IsList l items) (hx : items[i]? = none)
    (hQ : ∀ h', Heap.ExtBut it s.heap h' → Q none { s with heap := h' }) : wpAny (model prog w) A (pyNext (.ref it)) Q E' s := by
  obtain ⟨o, ho, hc, hd⟩ := id hit
  obtain ⟨ol, hol, _, nl, hdl⟩ := hl
  have hne1 := hot_ne hot ho hd
  obtain ⟨hh, o1, vs1, h1, d1, c1⟩ := hot
  unfold pyNext
  refine wpAny_bind (wpAny_attempt (wpAny_callSpecial?_slot (name := Str.ofString "__next__") hit.typeIs slot_listiter_next
    (wpAny_call_entry slot_listiter_next hit.typeIs entry_listiter_next ?_ (args_listiter_next _))))
  show wpAny _ _ (field (.ref it) 0 >>= _) _ _ s
  refine wpAny_bind (wpAny_field ho hd (x := .ref l) rfl ?_)
  show wpAny _ _ (if (Value.ref l == Value.none) = true then _ else _) _ _ s
  rw [if_neg (show ¬ ((Value.ref l == Value.none) = true) from Bool.false_ne_true)]
  show wpAny _ _ (field (.ref it) 1 >>= _) _ _ s
  refine wpAny_bind (wpAny_field ho hd (x := .int i 0) rfl ?_)
  show wpAny _ _ (seqItems? (.ref l) >>= _) _ _ s
  refine wpAny_bind (wpAny_seqItems hol hdl ?_)
  simp only [Int.toNat_natCast, hx]
  refine wpAny_bind (wpAny_rule (wpAny_bind (wpAny_setField ho hd (by simp) ?_)))
  show wpAny _ _ (newExc (.type "StopIteration") [] >>= _) _ _ _
  refine wpAny_bind ?_
  simp only [newExc, newTuple]
  refine wpAny_bind (wpAny_newObj_type ?_ (by size_fits))
  refine wpAny_bind (m := firstArgMember _ _) (wpAny_of_eq (a := Value.none) (by first | rfl | (simp only [firstArgMember]; rfl)) ?_)
  refine wpAny_newObj_type ?_ (by size_fits)
  have h1' : (s.heap.update it (Obj.mapFields fun x => x.setIfInBounds 0 Value.none)).get? x1 = some o1 := (Heap.get?_update_other _ _ (Ne.symm hne1)).trans h1
  refine raiseNew_hot ⟨hh, o1, vs1, Heap.get?_push_of_some _ (Heap.get?_push_of_some _ ?_), d1, c1⟩ ?_ (Heap.get?_push_size _ rfl) rfl (by first | (simp; done) | (simp; omega) | (simp only [Array.size_append]; simp; omega)) ?_
  · exact (Heap.get?_update_other _ _ (Ne.symm hne1)).trans h1
  · exact Nat.ne_of_lt (Heap.lt_size (o := o1) (Heap.get?_push_of_some _ ((Heap.get?_update_other _ _ (Ne.symm hne1)).trans h1)))
  refine wpAny_bind (wpAny_isInstance (T := "StopIteration") (b := true) ⟨_, Heap.get?_update_self _ (Heap.get?_push_size _ rfl) rfl, rfl⟩ isSubtype_stop ?_)
  refine wpAny_pure (hQ _ fun b o hb e => ?_)
  refine (Heap.get?_update_other _ _ ?_).trans (Heap.get?_push_of_some _ (Heap.get?_push_of_some _ ((Heap.get?_update_other _ _ (Ne.symm hb)).trans e)))
  exact Nat.ne_of_gt (Heap.lt_size (o := o) (Heap.get?_push_of_some _ ((Heap.get?_update_other _ _ (Ne.symm hb)).trans e)))
theorem next_tuple_end_hot {it t x1 : Addr} {i : Nat} {items : Array Value} {Q : Option Value → Shared → Prop} (hot : HotAt A x1 s.heap)
    (hit : IsTupIter s.heap it t i) (ht : IsTup s.heap t items) (hx : items[i]? = none)
    (hQ : ∀ h', Heap.ExtBut it s.heap h' → Q none { s with heap := h' }) : wpAny (model prog w) A (pyNext (.ref it)) Q E' s := by
  obtain ⟨o, ho, hc, hd⟩ := id hit
  obtain ⟨ol, hol, _, nl, hdl⟩ := ht
  have hne1 := hot_ne hot ho hd
  obtain ⟨hh, o1, vs1, h1, d1, c1⟩ := hot
  unfold pyNext
  refine wpAny_bind (wpAny_attempt (wpAny_callSpecial?_slot (name := Str.ofString "__next__") hit.typeIs slot_tupleiter_next
    (wpAny_call_entry slot_tupleiter_next hit.typeIs entry_tupleiter_next ?_ (args_tupleiter_next _))))
  show wpAny _ _ (field (.ref it) 0 >>= _) _ _ s
  refine wpAny_bind (wpAny_field ho hd (x := .ref t) rfl ?_)
  show wpAny _ _ (if (Value.ref t == Value.none) = true then _ else _) _ _ s
  rw [if_neg (show ¬ ((Value.ref t == Value.none) = true) from Bool.false_ne_true)]
  show wpAny _ _ (field (.ref it) 1 >>= _) _ _ s
  refine wpAny_bind (wpAny_field ho hd (x := .int i 0) rfl ?_)
  show wpAny _ _ (seqItems? (.ref t) >>= _) _ _ s
  refine wpAny_bind (wpAny_seqItems hol hdl ?_)
  simp only [Int.toNat_natCast, hx]
  refine wpAny_bind (wpAny_rule (wpAny_bind (wpAny_setField ho hd (by simp) ?_)))
  show wpAny _ _ (newExc (.type "StopIteration") [] >>= _) _ _ _
  refine wpAny_bind ?_
  simp only [newExc, newTuple]
  refine wpAny_bind (wpAny_newObj_type ?_ (by size_fits))
  refine wpAny_bind (m := firstArgMember _ _) (wpAny_of_eq (a := Value.none) (by first | rfl | (simp only [firstArgMember]; rfl)) ?_)
  refine wpAny_newObj_type ?_ (by size_fits)
  refine raiseNew_hot ⟨hh, o1, vs1, Heap.get?_push_of_some _ (Heap.get?_push_of_some _ ?_), d1, c1⟩ ?_ (Heap.get?_push_size _ rfl) rfl (by first | (simp; done) | (simp; omega) | (simp only [Array.size_append]; simp; omega)) ?_
  · exact (Heap.get?_update_other _ _ (Ne.symm hne1)).trans h1
  · exact Nat.ne_of_lt (Heap.lt_size (o := o1) (Heap.get?_push_of_some _ ((Heap.get?_update_other _ _ (Ne.symm hne1)).trans h1)))
  refine wpAny_bind (wpAny_isInstance (T := "StopIteration") (b := true) ⟨_, Heap.get?_update_self _ (Heap.get?_push_size _ rfl) rfl, rfl⟩ isSubtype_stop ?_)
  refine wpAny_pure (hQ _ fun b o hb e => ?_)
  refine (Heap.get?_update_other _ _ ?_).trans (Heap.get?_push_of_some _ (Heap.get?_push_of_some _ ((Heap.get?_update_other _ _ (Ne.symm hb)).trans e)))
  exact Nat.ne_of_gt (Heap.lt_size (o := o) (Heap.get?_push_of_some _ ((Heap.get?_update_other _ _ (Ne.symm hb)).trans e)))
theorem unpack_tuple_hot {env : PySem.Env} {elts : List Expr} {k : Nat} {pos : Pos} {t x1 : Addr} {items : Array Value} {Q : Unit → Shared → Prop} (hot : HotAt A x1 s.heap) (ht : IsTup s.heap t items)
    (hn : (assignEach elts env).length = items.size) (hstar : (assignEach elts env).findIdx? (·.1) = none)
    (h : ∀ h', Heap.ExtBut s.heap.objs.size s.heap h' → wpAny (model prog w) A (assignInOrder ((assignEach elts env).map (·.2)) items.toList) Q E' { s with heap := h' }) :
    wpAny (model prog w) A (assign (.Tuple elts k pos) env (.ref t)) Q E' s := by
  have hlt : t ≠ s.heap.objs.size := by obtain ⟨o, ho, _⟩ := ht; exact Nat.ne_of_lt (Heap.lt_size ho)
  rw [assign_Tuple]
  refine wpAny_bind (wpAny_standAt ?_)
  unfold unpack
  rw [hn, hstar]
  refine wpAny_bind (wpAny_holding ?_)
  unfold unpackItems
  refine wpAny_bind ?_
  · unfold notIterableAtAll
    refine wpAny_bind (wpAny_specialOf ht.typeIs PyProof.Rows.slot_tuple_iter.lookup ?_)
    refine wpAny_pure ?_
    simp only [Bool.false_eq_true, if_false]
    refine wpAny_bind (wpAny_holding (iter_tuple ht ?_))
    refine wpAny_bind (wpAny_holding (draw_tuple hlt items.size 0 _ _ ⟨_, Heap.get?_push_size _ rfl, rfl, rfl⟩ (ht.push _) (by omega) fun h₁ hit₁ hs₁ => ?_))
    have hall : List.take items.size (List.drop 0 items.toList) = items.toList := by
      rw [List.drop_zero]; exact List.take_of_length_le (by simp)
    rw [hall]
    rw [if_neg (by simp)]
    have ht₁ : IsTup h₁ t items := (ht.push _).extBut hs₁.extBut hlt
    have hot₁ : HotAt A x1 h₁ := by
      obtain ⟨hh, o1, vs1, h1, d1, c1⟩ := hot
      exact ⟨hh, o1, vs1, hs₁.extBut x1 _ (Nat.ne_of_lt (Heap.lt_size h1)) (Heap.get?_push_of_some _ h1), d1, c1⟩
    refine wpAny_bind (wpAny_holding (next_tuple_end_hot (s := { s with heap := h₁ }) hot₁ hit₁ ht₁ (by simp) fun h₂ he₂ => ?_))
    simp only [Option.isSome_none, Bool.false_eq_true, if_false]
    exact wpAny_pure (h h₂ fun b o hb e => he₂ b o hb (hs₁.extBut b o hb (Heap.get?_push_of_some _ e)))
end
/-- as Turn, in a suite -/
structure TurnQ (P : Program) (w : World) (K : PySem.W.Frag) (tg : Expr) (J : It) (fp : List Addr) (it : Addr) (tn : Nat → Heap → Prop) : Prop where
  mem : it ∈ fp
  obj : ∀ i h, tn i h → ∀ b ∈ fp, ∃ o, h.get? b = some o ∧ ∀ v, o.data ≠ .cell v
  keep : ∀ i h h', tn i h → (∀ b ∈ fp, ∀ o, h.get? b = some o → h'.get? b = some o) → tn i h'
  item : ∀ (X : Cx), X.prog = P → X.w = w → X.K = K → ∀ (i : Nat) (pins : List (Addr × Obj)) (s : Shared) (σ : L2.St) (H : Hp) (E : Value → Shared → Prop), (∃ x1, HotAt X.A x1 s.heap) → Inv X pins σ H s → (∀ b ∈ fp, FpOk X pins H b) → tn i s.heap → J.go i H →
    wpAny (model P w) X.A (pyNext (.ref it)) (fun r s1 => ∃ u, r = some u ∧
      wpAny (model P w) X.A (letOwnedTupleGo tg (.ref it) u) (fun _ s2 => ∃ x H', Inv X pins σ H' s2 ∧ RelV x u ∧ J.yld i H x H' ∧ tn (i + 1) s2.heap ∧ ∀ b ∈ fp, H' b = none) E s1) E s
  done : ∀ (X : Cx), X.prog = P → X.w = w → X.K = K → ∀ (i : Nat) (pins : List (Addr × Obj)) (s : Shared) (σ : L2.St) (H : Hp) (E : Value → Shared → Prop), (∃ x1, HotAt X.A x1 s.heap) → Inv X pins σ H s → (∀ b ∈ fp, FpOk X pins H b) → tn i s.heap → J.stop i H →
    wpAny (model P w) X.A (pyNext (.ref it)) (fun r s1 => r = none ∧ Inv X pins σ H s1) E s
  self : ∀ (A : Around) (i : Nat) (s : Shared) (Q : Value → Shared → Prop) (E : Value → Shared → Prop), tn i s.heap → Q (.ref it) s → wpAny (model P w) A (pyIter (.ref it)) Q E s
theorem turn_listQ {P : Program} {w : World} {K : PySem.W.Frag} {tg : Expr} (a it : Addr) : TurnQ P w K tg (Itl K a) [it] it (fun i h => h.IsListIter it a i) where
  mem := by simp
  obj := fun i h st b hb => by
    have e : b = it := by simpa using hb
    subst e
    obtain ⟨o, e, c, d⟩ := st
    exact ⟨o, e, fun v z => by rw [d] at z; cases z⟩
  keep := fun i h h' st k => st.at fun o e => k it (by simp) o e
  item := by
    intro X hP hw hK i pins s σ H E hot I hf st hg
    subst hP hw hK
    obtain ⟨xs, x, hq, hx⟩ := hg
    obtain ⟨its, rv, p, hz⟩ := I.list hq
    obtain ⟨u, hu, ru⟩ := rv.get hx
    obtain ⟨f0, f1, f2, f3, f4, f5⟩ := hf it (by simp)
    refine wpAny_pyNext_list_item st p.isList (x := u) (by simpa using hu) fun h' st' sb => ?_
    have I1 : Inv X pins σ H { s with heap := h' } := I.turned (t' := s.toks) (fun b o hb e => (sb.2 b hb).trans e) f0 f1 f3 f4 f5
    obtain ⟨o, e, c, d⟩ := id st'
    exact ⟨u, rfl, go_of (s := { s with heap := h' }) e c d (by decide) ⟨x, H, I1, ru, ⟨rfl, fun ys hy => by rw [I.list_inj hy hq]; exact hx⟩, st', fun b hb => (hf b hb).1⟩⟩
  done := by
    intro X hP hw hK i pins s σ H E hot I hf st hg
    subst hP hw hK
    obtain ⟨xs, hq, hx⟩ := hg
    obtain ⟨its, rv, p, hz⟩ := I.list hq
    obtain ⟨f0, f1, f2, f3, f4, f5⟩ := hf it (by simp)
    obtain ⟨x1, hot⟩ := hot
    have hl := rv.length
    exact next_list_end_hot hot st p.isList (by simp; omega) fun h' eb => ⟨rfl, I.turned (t' := s.toks) (fun b o hb e => eb b o hb e) f0 f1 f3 f4 f5⟩
  self := fun _ _ _ _ _ st h => wpAny_pyIter_listiter st h
def PIEQ (X : Cx) (pins : List (Addr × Obj)) (σ : L2.St) (tg : Expr) (R : It → Hp → Prop) (itv : Value) (s2 : Shared) : Prop :=
  ∃ (it : Addr) (fp : List Addr) (tn : Nat → Heap → Prop) (J : It) (H' : Hp), itv = .ref it ∧ Inv X pins σ H' s2 ∧ TurnQ X.prog X.w X.K tg J fp it tn ∧ tn 0 s2.heap ∧ (∀ b ∈ fp, FpOk X pins H' b) ∧ R J H'
structure PIQ (X : Cx) (tg iter : Expr) (wi : TI) : Prop where
  run : ∀ (pins : List (Addr × Obj)) (s : Shared) (σ : L2.St) (H : Hp) (R : It → Hp → Prop), Inv X pins σ H s → wi σ H R →
    wpAny (model X.prog X.w) X.A (eval iter X.env) (fun v s1 => wpAny (model X.prog X.w) X.A (pyIter v) (PIEQ X pins σ tg R) X.xe s1) X.xe s
theorem piq_list {X : Cx} {tg l : Expr} {tl : TE} (hl : PE X l tl) : PIQ X tg l (iList X.K tl) := by
  refine ⟨fun pins s σ H R I h => ?_⟩
  refine thn (hl.run pins s σ H _ I h) fun v s1 ⟨x, H1, I1, r1, q1⟩ => ?_
  obtain ⟨a, e, ⟨xs, hq⟩, q⟩ := q1
  subst e
  cases r1
  obtain ⟨its, rv, p, hz⟩ := I1.list hq
  refine wpAny_pyIter_list p.isList ?_
  refine ⟨s1.heap.objs.size, [s1.heap.objs.size], _, _, H1, rfl, I1.kept (t' := s1.toks) fun b o e => Heap.get?_push_of_some _ e, turn_listQ a _, ⟨_, Heap.get?_push_size _ rfl, rfl, rfl⟩, fun b hb => ?_, q⟩
  have e : b = s1.heap.objs.size := by simpa using hb
  subst e
  exact I1.fpOk (Nat.le_refl _) (I1.hok.fresh (Nat.le_refl _))
/-- the handled exception, where a block starts -/
def HotB (X : Cx) (s : Shared) (H : Hp) (fp : List Addr) : Prop := ∃ x1 o vs, X.A.handled = some (.ref x1) ∧ s.heap.get? x1 = some o ∧ o.data = .fields vs ∧ vs[2]? = some Value.none ∧ H x1 = none ∧ x1 ∉ frs X.stack ∧ x1 ∉ fp
theorem HotB.at {X : Cx} {s s' : Shared} {H H' : Hp} {fp : List Addr} {scope : Scope} {ce : PySem.Env} {pins : List (Addr × Obj)} {σ : L2.St} (h : HotB X s H fp) (I : Inv (X.blk s H scope ce fp) pins σ H' s') : ∃ x1, HotAt X.A x1 s'.heap := by
  obtain ⟨x1, o, vs, h1, h2, h3, h4, h5, h6, h7⟩ := h
  exact ⟨x1, h1, o, vs, I.base.keep x1 o h2 h5 h6 h7, h3, h4⟩
/-- a pair taken apart, there -/
theorem pg_tupH {X : Cx} {es : List Expr} {k n : Nat} {pos : Pos} {t : TGs} (hot : ∀ (pins : List (Addr × Obj)) (σ : L2.St) (H : Hp) (s : Shared), Inv X pins σ H s → ∃ x1, HotAt X.A x1 s.heap) (h : PGs X es t)
    (hn : (assignEach es X.env).length = n := by rfl) (hst : (assignEach es X.env).findIdx? (·.1) = none := by rfl) : PG X (.Tuple es k pos) (gTup X.K n t) := by
  refine ⟨fun pins s σ H v u Q I r hw => ?_⟩
  obtain ⟨a, xs, e1, hq, hl, hw⟩ := hw
  subst e1
  cases r
  obtain ⟨its, rv, ht, hz⟩ := I.tuple hq
  obtain ⟨x1, hx1⟩ := hot _ _ _ _ I
  refine unpack_tuple_hot hx1 ht (by simp [hn, ← hl, rv.length]) hst fun h' hx => ?_
  have I1 : Inv X pins σ H { s with heap := h' } := I.kept (t' := s.toks) fun b o e => hx b o (Nat.ne_of_lt (Heap.lt_size e)) e
  exact h.run pins _ σ H xs _ Q I1 (by simpa using rv) hw
section
variable {X : Cx}
theorem lc_coreQ {pins : List (Addr × Obj)} {s : Shared} {σ : L2.St} {H : Hp} {Q : VK} {elt tg iter : Expr} {ifs : List Expr} {scope : Scope} {own : List (Str × Nat)} {pos pos' : Pos} {wi : TI} {g : TG} {tt : L2.TT} {te : TE} {use : Option (Value → Sem Unit)} {Qf : Value → Shared → Prop}
    (hc : L2H.HotC X) (hst : X.stack = X.env :: X.outer) (hfr : X.env.frame = some X.env.locals) (hN : X.N.Nodup) (I : Inv X pins σ H s) (hi : PIQ X tg iter wi) (ok : BlkOk X.N X.env.scope scope own)
    (hg : ∀ (s : Shared) (H : Hp) (C : Addr) (cl : List (Str × Addr)) (fp : List Addr), HotB X s H fp → PG (X.blk s H scope (compEnvC scope cl C X.env) fp) tg g) (ht : ∀ (s : Shared) (H : Hp) (C : Addr) (cl : List (Str × Addr)) (fp : List Addr), PTs (X.blk s H scope (compEnvC scope cl C X.env) fp) ifs tt)
    (he : ∀ (s : Shared) (H : Hp) (C : Addr) (cl : List (Str × Addr)) (fp : List Addr), PE (X.blk s H scope (compEnvC scope cl C X.env) fp) elt te) (hs : ∀ x, foldedSetIterable iter X.env x = pure x)
    (h : tLc wi g tt te (own.map (·.2)) σ H Q)
    (hRR : ∀ D C s' m H', Inv X pins σ H' s' → Q (.ref D) H' → s'.heap.Ns C m → FpOk X pins H' C → compPost (model X.prog X.w) X.A X.xe use Qf (.ref D) C (.ok .next) s') :
    wpAny (model X.prog X.w) X.A (comprehension (.ListComp elt [⟨tg, iter, ifs, 0⟩] scope pos) scope X.env pos' (newList []) false (eval iter X.env) use) Qf X.xe s := by
  have hfree : ∀ y ∈ scope.names, y.2 = .free → ∃ c, X.env.cells.lookup y.1 = some c := fun y hy e => by
    rcases ok.free y hy e with k | k
    · exact I.ok.has _ (.inl k)
    · exact I.ok.has _ (.inr k)
  refine wpAny_comprehension_free (use := use) rfl hs (closure_ok hfree) ok.kind (fun y hy e => by rw [ok.uniq y hy, e])
    (thn (hi.run pins s σ H _ I h) fun xv s1 hx => thn hx fun itv s2 h2 => ?_)
  obtain ⟨it, fp, tn, J, H2, e, I2, T, st2, f2, q⟩ := h2
  subst e
  refine wpAny_newObj_type (newEnv_comp ?_) (by show 0 ≤ sizeLine; decide)
  generalize hD : s2.heap.objs.size = D
  have hDn : H2 D = none := I2.hok.fresh (Nat.le_of_eq hD)
  obtain ⟨W, ⟨m0, w0⟩, turn⟩ := q D hDn
  -- the new list
  generalize hs3 : ({ s2 with heap := s2.heap.push { cls := .type "list", data := .seq ([] : List Value).toArray } } : Shared) = s3
  have I3 : Inv X pins σ (upd H2 D (.lst [])) s3 := by
    rw [← hs3]
    refine I2.laid (t' := s2.toks) (fun b o e => Heap.get?_push_of_some _ e) (Nat.le_of_eq hD) ⟨Nat.zero_le _, [], 0, .nil, ?_⟩
    rw [← hD]
    exact Heap.get?_push_size _ rfl
  have h3 : s3.heap = s2.heap.push { cls := .type "list", data := .seq ([] : List Value).toArray } := by rw [← hs3]
  have sz : ∀ b ∈ fp, b < s2.heap.objs.size := fun b hb => by
    obtain ⟨o, e, _⟩ := T.obj _ _ st2 b hb
    exact Heap.lt_size e
  have f3 : ∀ b ∈ fp, FpOk X pins (upd H2 D (.lst [])) b ∧ b < s3.heap.objs.size := fun b hb => by
    have hlt := sz b hb
    refine ⟨⟨?_, (f2 b hb).2⟩, by rw [h3, Heap.size_push]; exact Nat.lt_succ_of_lt hlt⟩
    rw [upd_ne (by rw [← hD]; exact Nat.ne_of_lt hlt)]
    exact (f2 b hb).1
  have st3 : tn 0 s3.heap := T.keep _ _ _ st2 fun b _ o e => by rw [h3]; exact Heap.get?_push_of_some _ e
  have I4 := block_start I3 ok hN f3
  have hB : HotB X s3 (upd H2 D (.lst [])) fp := by
    obtain ⟨p, ⟨hh, v1, e1, c1⟩, hp⟩ := hc
    obtain ⟨q1, q2, q3, q4, _⟩ := I3.pin p (List.mem_append_left _ hp)
    refine ⟨p.1, p.2, v1, hh, q1, e1, c1, q2, fun z => ?_, fun z => (f3 p.1 z).1.2.2.2.2.2 p (List.mem_append_left _ hp) rfl⟩
    rw [hst] at z
    have z : p.1 ∈ (X.env :: X.outer).filterMap (·.frame) := z
    rw [List.filterMap_cons, hfr] at z
    rcases List.mem_cons.mp z with z | z
    · exact q3 z
    · exact q4 z
  have pg := hg s3 (upd H2 D (.lst [])) s3.heap.objs.size (cellsFrom (s3.heap.objs.size + 1) scope.names (cloFrom X.env.cells scope.names [])) fp hB
  have pt := ht s3 (upd H2 D (.lst [])) s3.heap.objs.size (cellsFrom (s3.heap.objs.size + 1) scope.names (cloFrom X.env.cells scope.names [])) fp
  have pe := he s3 (upd H2 D (.lst [])) s3.heap.objs.size (cellsFrom (s3.heap.objs.size + 1) scope.names (cloFrom X.env.cells scope.names [])) fp
  show codeAny _ _ (.compStart (.ListComp elt [⟨tg, iter, ifs, 0⟩] scope pos) 0 (.ref it) (.ref D) (compEnvC scope (cellsFrom (s3.heap.objs.size + 1) scope.names (cloFrom X.env.cells scope.names [])) s3.heap.objs.size X.env)) (compPost (model X.prog X.w) X.A X.xe use Qf (.ref D) s3.heap.objs.size) { s3 with heap := pushCells (s3.heap.push { cls := .type "dict", data := .dict #[] }) scope.names }
  have nfp : ∀ b ∈ fp, (upd H2 D (.lst [])) b = none := fun b hb => (f3 b hb).1.1
  generalize hce : compEnvC scope (cellsFrom (s3.heap.objs.size + 1) scope.names (cloFrom X.env.cells scope.names [])) s3.heap.objs.size X.env = ce at I4 pg pt pe ⊢
  have cL : ce.locals = s3.heap.objs.size := by subst hce; rfl
  generalize hH3 : upd H2 D (.lst []) = H3 at I3 I4 pg pt pe w0 nfp f3 hB
  generalize hs4 : ({ s3 with heap := pushCells (s3.heap.push { cls := .type "dict", data := .dict #[] }) scope.names } : Shared) = s4 at I4 ⊢
  have st4 : tn 0 s4.heap := T.keep _ _ _ st3 fun b _ o e => by rw [← hs4]; exact pushCells_keeps _ _ _ _ (Heap.get?_push_of_some _ e)
  have stat : ∀ {σ' : L2.St} {H' : Hp} {s' : Shared}, Inv (X.blk s3 H3 scope ce fp) [] σ' H' s' → (∀ b ∈ fp, H' b = none) → ∀ b ∈ fp, FpOk (X.blk s3 H3 scope ce fp) [] H' b := fun {σ' H' s'} I' hn b hb =>
    ⟨hn b hb, (I'.ok.exf b hb).1, I'.ok.exfs b hb, .inl hb, fun x c e => (I'.ok.exf b hb).2 x c e, fun p hp => absurd (show p ∈ ([] : List (Addr × Obj)) ++ [] from hp) (by simp)⟩
  have loop : codeAny (model X.prog X.w) X.A (.compLoop (.ListComp elt [⟨tg, iter, ifs, 0⟩] scope pos) 0 (.ref it) (.ref D) ce) (compPost (model X.prog X.w) X.A X.xe use Qf (.ref D) s3.heap.objs.size) s4 := by
    refine compLoop_any (fun n s' => ∃ i H', Inv (X.blk s3 H3 scope ce fp) [] (wipe σ (own.map (·.2))) H' s' ∧ tn i s'.heap ∧ (∀ b ∈ fp, H' b = none) ∧ W i n H') ?_ m0 ⟨0, H3, I4, st4, nfp, w0⟩
    rintro n s5 ⟨i, H5, I5, st5, n5, w5⟩
    rcases turn i n H5 w5 with ⟨stop, qq⟩ | ⟨go, Nx, hNx, step⟩
    · have td := T.done (X.blk s3 H3 scope ce fp) rfl rfl rfl i [] s5 _ H5 (fun _ _ => False) (hB.at I5) I5 (stat I5 n5) st5 stop
      refine thnF td fun r s6 ⟨hr, I6⟩ => ?_
      subst hr
      -- back in the def's context
      have I7 : Inv X pins σ H5 s6 := I3.call' (ch := fp) I6.os I6.base I6.hok I6.bare fun b hb => ⟨(f3 b hb).1.2.2.2.1, (f3 b hb).1.2.1, (f3 b hb).1.2.2.2.2.1, (f3 b hb).1.2.2.2.2.2⟩
      have nC : H5 s3.heap.objs.size = none := by
        have z : H5 ce.locals = none := I6.free
        rw [cL] at z
        exact z
      obtain ⟨m, hn, _⟩ := I6.loc
      have hn : s6.heap.Ns ce.locals m := hn
      rw [cL] at hn
      exact hRR D s3.heap.objs.size s6 m H5 I7 qq hn (I3.fpOk (Nat.le_refl _) nC)
    · have ti := T.item (X.blk s3 H3 scope ce fp) rfl rfl rfl i [] s5 _ H5 (fun _ _ => False) (hB.at I5) I5 (stat I5 n5) st5 go
      refine thnF ti fun r s6 ⟨u, hr, h6⟩ => ?_
      subst hr
      refine thnF h6 fun _ s7 ⟨x, H7, I7, r7, y7, st7, n7⟩ => ?_
      have I7' := I7.pinned (stat I7 n7) (T.obj _ _ st7)
      refine thnF (pg.run _ s7 _ H7 x u _ I7' r7 (step x H7 y7)) fun _ s8 ⟨σ8, H8, I8, hw8, q8⟩ => ?_
      refine thnF (pt.run _ s8 σ8 H8 _ I8 q8) fun b s9 ⟨H9, I9, q9⟩ => ?_
      -- the turn's end
      have fin : ∀ {s' : Shared} {H' : Hp}, Inv (X.blk s3 H3 scope ce fp) ([] ++ pinsAt fp s7.heap) σ8 H' s' → Nx H' → ∃ m, m < n ∧ ∃ i H', Inv (X.blk s3 H3 scope ce fp) [] (wipe σ (own.map (·.2))) H' s' ∧ tn i s'.heap ∧ (∀ b ∈ fp, H' b = none) ∧ W i m H' := fun {s' H'} I' nx => by
        obtain ⟨m', hm, w'⟩ := hNx H' nx
        have pin' : ∀ b ∈ fp, ∀ o, s7.heap.get? b = some o → s'.heap.get? b = some o ∧ H' b = none := fun b hb o e =>
          let z := I'.pin (b, o) (List.mem_append_right _ (List.mem_append_right _ (mem_pinsAt hb e)))
          ⟨z.1, z.2.1⟩
        have hl : (wipe σ (own.map (·.2))).length = σ8.length := by rw [← hw8, wipe_length]
        refine ⟨m', hm, i + 1, H', (I'.unpinned (pins := [])).weak hl (fun j v e => ?_), T.keep _ _ _ st7 fun b hb o e => (pin' b hb o e).1, fun b hb => ?_, w'⟩
        · rw [← hw8] at e
          exact (wipe_some e).1
        · obtain ⟨o, e, _⟩ := T.obj _ _ st7 b hb
          exact (pin' b hb o e).2
      cases b with
      | false =>
        simp only [Bool.false_eq_true, if_false] at q9 ⊢
        exact fin I9 q9
      | true =>
        simp only [if_true] at q9 ⊢
        refine thnF (pe.run _ s9 σ8 H9 _ I9 q9) fun z s10 ⟨yv, H10, I10, r10, acc, hD10, hz10, nx⟩ => ?_
        exact app_ok (X := X.blk s3 H3 scope ce fp) I10 hD10 hz10 r10 fun s11 I11 => fin I11 nx
  exact codeAny_compStart_list loop (T.self X.A 0 _ _ _ st4 loop)
/-- name = [..], there -/
theorem ps_setLcQ {i : Nat} {y : Str} {py : Pos} {elt tg iter : Expr} {ifs : List Expr} {scope : Scope} {own : List (Str × Nat)} {pos spos : Pos} {wi : TI} {g : TG} {tt : L2.TT} {te : TE} (hc : L2H.HotC X) (hst : X.stack = X.env :: X.outer) (hfr : X.env.frame = some X.env.locals) (hN : X.N.Nodup) (hy : X.N[i]? = some y) (hyl : X.env.scope.names.lookup y = some .local)
    (hsw : swapsWith (.ListComp elt [⟨tg, iter, ifs, 0⟩] scope pos) (some (.Name y py)) spos.line X.env = pure true) (hi : PIQ X tg iter wi) (ok : BlkOk X.N X.env.scope scope own)
    (hg : ∀ (s : Shared) (H : Hp) (C : Addr) (cl : List (Str × Addr)) (fp : List Addr), HotB X s H fp → PG (X.blk s H scope (compEnvC scope cl C X.env) fp) tg g) (ht : ∀ (s : Shared) (H : Hp) (C : Addr) (cl : List (Str × Addr)) (fp : List Addr), PTs (X.blk s H scope (compEnvC scope cl C X.env) fp) ifs tt)
    (he : ∀ (s : Shared) (H : Hp) (C : Addr) (cl : List (Str × Addr)) (fp : List Addr), PE (X.blk s H scope (compEnvC scope cl C X.env) fp) elt te) (hs : ∀ x, foldedSetIterable iter X.env x = pure x := by intro _; rfl) :
    PS X (.Assign [.Name y py] (.ListComp elt [⟨tg, iter, ifs, 0⟩] scope pos) spos) (tAsg (tLc wi g tt te (own.map (·.2))) (gName i)) := by
  refine ⟨fun pins s σ H D I h => ?_⟩
  rw [exec_Assign_Name_used _ _ _ _ hsw]
  refine wpAny_bind (wpAny_standAt (wpAny_bind ?_))
  show wpAny _ X.A (do let _ ← comprehension (.ListComp elt [⟨tg, iter, ifs, 0⟩] scope pos) scope X.env (firstIterPos [⟨tg, iter, ifs, 0⟩] pos) (newList []) false (eval iter X.env) (some (assign (.Name y py) X.env))) _ _ s
  have h : tLc wi g tt te (own.map (·.2)) σ H (fun x H1 => gName i x σ H1 D.nx) := h
  refine wpAny_bind (thn (lc_coreQ (Qf := fun _ s' => SP X pins D .next s') hc hst hfr hN I hi ok hg ht he hs h fun L C s' m H' I' q hn f => ?_) fun _ s' hq => wpAny_pure (wpAny_pure hq))
  show wpAny _ _ (assign (.Name y py) X.env (.ref L)) _ _ _
  refine wpAny_assign_Name (store_ok2 (v := V.ref L) I' hN hy (.inl hyl) rfl (fun s2 I2 ⟨a, sb, ha⟩ => ?_) (.inr hyl))
  obtain ⟨f0, f1, f2, f3, f4, f5⟩ := f
  have haC : C ≠ a := by
    rcases ha with z | z
    · rw [z]; exact f1
    · exact fun e => f4 y a z e.symm
  refine ⟨m, hn.sameBut sb haC, fun h3 sb3 => ?_⟩
  exact ⟨_, H', I2.turned (t' := s2.toks) (fun b o hb e => (sb3.2 b hb).trans e) f0 f1 f3 f4 f5, q⟩
end
end EV
end
section
set_option linter.all false
set_option maxRecDepth 100000
/-! EvLam: x(lambda: e), exceptions with a context of None: HandS.Lambda's road over L2N. -/
namespace EV
open PySem PySem.W L2 PySem.Spec PyProof.Rows LamX HotX
section
variable {X : Cx} {pins : List (Addr × Obj)} {σ : L2.St} {H HZ : Hp} {s s1 : Shared}
theorem lam_make3 {T : List (Addr × Str)} {c P : Addr} {params : Arguments} {body : Expr} {scope : Scope} {pos : Pos} {E : Value → Shared → Prop} {Q : Value → Shared → Prop} (I : Inv X pins σ H s) (TB : TabB X.base X.mg c P) (hcode : X.env.code = .ref c)
    (hm : (P, X.env.qual ++ "<lambda>") ∈ T) (hu : ∀ p ∈ T, p.1 = P → p.2 = X.env.qual ++ "<lambda>") (hT : Tabs T H) (hdef : defaultsOf params X.env = ([], [])) (hfree : ∀ y ∈ scope.names, y.2 = .free → ∃ c, X.env.cells.lookup y.1 = some c)
    (h : ∀ (f c' : Addr) (pm ctv : Value) (H1 : Hp) (s' : Shared), Inv X pins σ H1 s' → ExtN H H1 → (∀ b, H1 b = none → H b = none) → Tabs T H1 →
      s'.heap.get? f = some (PySem.W.kla_obj "<lambda>" (X.env.qual ++ "<lambda>") params body scope (cloFrom X.env.cells scope.names []) pm c' ctv) → H1 f = none → f ∉ frs X.stack → H1 c' = some (CodeO c' (X.env.qual ++ "<lambda>")) → Q (.ref f) s') :
    wpAny (model X.prog X.w) X.A (eval (.Lambda params body scope pos) X.env) Q E s := by
  obtain ⟨ps, hP, ht, ha⟩ := hT _ hm
  refine PySem.W.kla_eval hdef ?_
  have bP : s.heap.BuiltinsAt X.mg P := TB.bm.keeps I.bk
  have hP' : s.heap.get? P = some { cls := .none, data := .fields ps } := I.hok P _ hP
  have nofr : ∀ f, s.heap.objs.size ≤ f → f ∉ frs X.stack := fun f hf z => by
    rcases List.mem_cons.mp (I.stkSub _ z) with e | e
    · have h1 := I.lt
      rw [← e] at h1
      exact Nat.lt_irrefl _ (Nat.lt_of_lt_of_le h1 hf)
    · exact I.nofs hf e
  cases hc : codeAmong pos ps.toList with
  | none =>
    refine PySem.W.kla_makeFunction (mg := X.mg) (c := c) (P := P) (ps := ps) (closure_ok hfree) I.ok.glob (I.mod.glob.keeps I.bk) hcode (TB.code.keeps I.bk) hP' ht hc TB.gP bP fun c' ctv h' tk hx hge hlt hrec htb => ?_
    obtain ⟨c2, oc, vs, t, e2, hoc, hd, hv⟩ := hrec
    cases e2
    have hsz : s.heap.objs.size ≤ h'.objs.size := Nat.le_trans hge (Nat.le_of_lt hlt)
    have nC : H c' = none := I.hok.fresh hge
    have I1 := inv_table (t' := tk) (more := #[rawInt pos.line, rawInt pos.col, .ref c']) (h' := h'.push (PySem.W.kla_obj "<lambda>" (X.env.qual ++ "<lambda>") params body scope (cloFrom X.env.cells scope.names []) ((X.mg "__name__").getD .none) c' ctv)) I hP
      (fun b o hb e => Heap.get?_push_of_some _ (hx b o hb e)) (Heap.get?_push_of_some _ htb) hge ⟨oc, vs, t, Heap.get?_push_of_some _ hoc, hd, hv⟩
    have hE : ExtN H (upd (upd H P (.tbl (ps ++ #[rawInt pos.line, rawInt pos.col, .ref c']))) c' (CodeO c' (X.env.qual ++ "<lambda>"))) := fun b o e n => by
      rw [upd_ne (ne_of_none e nC), upd_ne (fun z => n ps (Option.some.inj (e.symm.trans (by rw [z]; exact hP))))]
      exact e
    have eL : (ps ++ #[rawInt pos.line, rawInt pos.col, .ref c']).toList = ps.toList ++ [rawInt pos.line, rawInt pos.col, .ref c'] := by simp
    refine h h'.objs.size c' ((X.mg "__name__").getD .none) ctv _ _ I1 hE (fun b e => ?_) (fun p hp => ?_) (Heap.get?_push_size _ rfl) ?_ (nofr _ hsz) upd_same
    · by_cases h1 : b = c'
      · rw [h1, upd_same] at e; cases e
      · rw [upd_ne h1] at e
        by_cases h2 : b = P
        · rw [h2, upd_same] at e; cases e
        · rw [upd_ne h2] at e; exact e
    · by_cases hb : p.1 = P
      · rw [hu p hp hb, hb]
        refine ⟨_, by rw [upd_ne (ne_of_none hP nC), upd_same], by rw [eL]; exact PySem.TriplesOk_snoc _ _ _ _ ht, fun p' cv hcv => ?_⟩
        rw [eL] at hcv
        rcases among_app _ ht hcv with z | z
        · obtain ⟨c0, e1, e2⟩ := ha p' cv z
          exact ⟨c0, e1, hE _ _ e2 codeO_ne⟩
        · exact ⟨c', z, upd_same⟩
      · obtain ⟨ps', a1, a2, a3⟩ := hT p hp
        refine ⟨ps', by rw [upd_ne (ne_of_none a1 nC), upd_ne hb]; exact a1, a2, fun p' cv hcv => ?_⟩
        obtain ⟨c0, e1, e2⟩ := a3 p' cv hcv
        exact ⟨c0, e1, hE _ _ e2 codeO_ne⟩
    · have n1 : h'.objs.size ≠ c' := Nat.ne_of_gt hlt
      have n2 : h'.objs.size ≠ P := Nat.ne_of_gt (Nat.lt_of_lt_of_le (Heap.lt_size hP') hsz)
      rw [upd_ne n1, upd_ne n2]
      exact I.hok.fresh hsz
  | some cv =>
    obtain ⟨c', e, hco⟩ := ha pos cv hc
    subst e
    refine PySem.W.kla_makeFunctionHit (mg := X.mg) (c := c) (P := P) (ps := ps) (closure_ok hfree) I.ok.glob (I.mod.glob.keeps I.bk) hcode (TB.code.keeps I.bk) hP' ht hc bP fun ctv h' tk hx hsz => ?_
    have I1 : Inv X pins σ H { s with heap := h'.push (PySem.W.kla_obj "<lambda>" (X.env.qual ++ "<lambda>") params body scope (cloFrom X.env.cells scope.names []) ((X.mg "__name__").getD .none) c' ctv), toks := tk } := I.kept fun b o e => Heap.get?_push_of_some _ (hx b o e)
    exact h h'.objs.size c' ((X.mg "__name__").getD .none) ctv H _ I1 (ExtN.refl H) (fun _ z => z) hT (Heap.get?_push_size _ rfl) (I.hok.fresh hsz) (nofr _ hsz) hco
/-- the context of the lambda's body -/
def lamCxN (X : Cx) (A : Around) (outer : List PySem.Env) (s : Shared) (H : Hp) (E : XK) (scope : Scope) (f c' : Addr) : Cx :=
  (lamCx X A outer s H (fun _ _ _ => False) scope f c').tr ([] ++ []) fun e s' => wpAny (model X.prog X.w) (A.deeper (lamEnv X scope s.heap.objs.size f c')) (leaving (lamEnv X scope s.heap.objs.size f c') e) (fun _ s'' => L2N.CX X.prog X.w outer H s E e s'') (fun e' s'' => L2N.CX X.prog X.w outer H s E e' s'') s'
theorem pe_actN {CXg : CXT} {Eg : XK} {Ng : List Str} {qg : Str} {sg : Scope} {g f c' : Addr} {cdg pm ctv : Value} {params : Arguments} {body : Expr} {scope : Scope} {k i : Nat} {a : Str} {pn : List (Addr × Obj)} {xe : Value → Shared → Prop} {W : WX} {E : XK} {tb : TE} {p1 p2 : Pos}
    (I : Inv X pins σ H s) (L : LamS X.env.scope scope) (hf : s.heap.get? f = some (PySem.W.kla_obj "<lambda>" (X.env.qual ++ "<lambda>") params body scope (cloFrom X.env.cells scope.names []) pm c' ctv)) (hfn : H f = none) (hfr : f ∉ frs X.stack)
    (hbind : bindArgs (PySem.W.kla_fn "<lambda>" (X.env.qual ++ "<lambda>") params body scope (cloFrom X.env.cells scope.names []) pm (.ref c') ctv) ⟨[], []⟩ = pure [])
    (tk : L2N.Takes ((cxOf CXg X.prog X.w X.K X.mg X.base Ng qg sg g cdg X.A X.stack s H Eg).tr pn xe) W) (hW : ∀ cls d σ' H', E cls d H' → W cls d σ' H') (hr : Room (k + 1) (X.A.deeper (envOfC qg sg s.heap.objs.size g cdg)))
    (hbody : ∀ (A : Around) (outer : List PySem.Env) (s : Shared) (H : Hp), Room k (A.deeper (lamEnv X scope s.heap.objs.size f c')) → PE (lamCxN X A outer s H E scope f c') body tb)
    (hN : Ng[i]? = some a) (hv : Vis sg a) (hd : (a == ("__debug__" : Str)) = false := by decide) (hcd : (a == ("__classdict__" : Str)) = false := by decide) :
    PE ((cxOf CXg X.prog X.w X.K X.mg X.base Ng qg sg g cdg X.A X.stack s H Eg).tr pn xe) (.Call (.Name a p1) [] [] p2)
      (fun σZ HZ Q => σZ[i]? = some (some (.ref f)) ∧ HZ c' = some (CodeO c' (X.env.qual ++ "<lambda>")) ∧ tb σ HZ Q) := by
  refine ⟨fun pinsZ sZ σZ HZ Q IZ h => ?_⟩
  obtain ⟨hs, hc, ht⟩ := h
  refine wpAny_Call_Name_kw (thn ((pe_var (pos := p1) (i := i) hN hv hd hcd).run pinsZ sZ σZ HZ (fun v H1 => v = .ref f ∧ H1 = HZ) IZ ⟨.ref f, hs, rfl, rfl⟩) fun u s1 ⟨v, H1, I1, r1, q1⟩ => ?_)
  obtain ⟨ev, eH⟩ := q1
  subst ev
  rw [eH] at I1
  obtain rfl : u = Value.ref f := r1
  have of1 : s1.heap.get? f = some (PySem.W.kla_obj "<lambda>" (X.env.qual ++ "<lambda>") params body scope (cloFrom X.env.cells scope.names []) pm c' ctv) := I1.base.keep f _ hf hfn hfr (fun z => nomatch (show f ∈ ([] : List Addr) from z))
  refine PySem.W.callWith_F0 ⟨_, _, _, _, of1⟩ ?_
  have un : Un (frs X.stack) [] H HZ s.heap s1.heap := I1.base
  obtain ⟨⟨oc, vs, t, hoc, hdc, hvc⟩, _, _⟩ := I1.hok c' _ hc
  have rc : codeAny (model X.prog X.w) (X.A.deeper (envOfC qg sg s.heap.objs.size g cdg)) (.call (.ref f) ⟨[], []⟩) (CR (L2N.CX X.prog X.w) (envOfC qg sg s.heap.objs.size g cdg :: X.stack) X.prog X.w HZ s1 Q E) s1 := by
    refine PySem.W.kla_callFunE hr.depth of1 rfl L.co L.gen rfl ⟨c', oc, vs, t, rfl, hoc, hdc, hvc⟩ ?_
    rw [hbind]
    refine wpAny_pure (wpAny_newFunctionEnv (fun y hy => (L.own y hy).2) (fun y hy => absurd hy (by simp)) (fun h₁ hns hsb => ⟨I1.nolimit.fresh _ hsb, ?_⟩) L.kind)
    show codeAny _ _ (.expr body (lamEnv X scope s1.heap.objs.size f c')) _ _
    have kp : ∀ b o, s1.heap.get? b = some o → h₁.get? b = some o := fun b o e => hsb.extBut b o (Nat.ne_of_lt (Heap.lt_size e)) (Heap.get?_push_of_some _ e)
    have J : Inv (lamCxN X (X.A.deeper (envOfC qg sg s.heap.objs.size g cdg)) (envOfC qg sg s.heap.objs.size g cdg :: X.stack) s1 HZ E scope f c') [] σ HZ { s1 with heap := h₁, toks := s1.toks + ([] : List (Str × Value)).length } :=
      (lam_start2 (E := fun _ _ _ => False) I L I1.env0 hr.hd un hns kp).toTry _
    refine PySem.W.kla_codeExpr (wpAny_mono ((hbody _ _ s1 HZ (hr.deeper _)).run [] _ _ HZ Q J ht) (fun v s' hq => ?_) fun e s' hq => hq)
    obtain ⟨w', H', J', rv, q⟩ := hq
    exact ⟨w', H', J'.os, J'.bare, J'.base, J'.hok, rv, q⟩
  have hx : Passes (L2N.CX X.prog X.w) ((cxOf CXg X.prog X.w X.K X.mg X.base Ng qg sg g cdg X.A X.stack s H Eg).tr pn xe) E := L2N.passes_call tk hW
  refine wpAny_call (codeAny_mono rc fun r s' hq => ?_)
  cases r with
  | error e => exact hx pinsZ σZ HZ s1 e s' I1 hq
  | ok fl =>
    cases fl with
    | ret u => exact I1.after hq
    | next => exact False.elim hq
    | brk => exact False.elim hq
    | cont => exact False.elim hq
end
def GivesToN (X : Cx) (Ng : List Str) (x : Str) (sg : Scope) (g : Addr) (cdg : Value) (bg : List Stmt) (a : Str) (q : Str) (TT : (XK → Hp → VK → Prop) → Hp → VK → Prop) : Prop :=
  ∀ (f c' : Addr) (s : Shared) (H : Hp) (Q : VK) (tl : XK → Hp → VK → Prop),
    (∀ (W : WX) (pn : List (Addr × Obj)) (xe : Value → Shared → Prop) (E : XK) (p1 p2 : Pos), L2N.Takes ((cxOf C8.CX0 X.prog X.w X.K X.mg X.base Ng x sg g cdg X.A X.stack s H C8.E0).tr pn xe) W → (∀ cls d σ' H', E cls d H' → W cls d σ' H') →
      PE ((cxOf C8.CX0 X.prog X.w X.K X.mg X.base Ng x sg g cdg X.A X.stack s H C8.E0).tr pn xe) (.Call (.Name a p1) [] [] p2) (fun σZ HZ Q => σZ[0]? = some (some (.ref f)) ∧ HZ c' = some (CodeO c' q) ∧ tl E HZ Q)) →
    H c' = some (CodeO c' q) → TT tl H Q →
    ∃ t, PSs (cxOf C8.CX0 X.prog X.w X.K X.mg X.base Ng x sg g cdg X.A X.stack s H C8.E0).nox bg t ∧ t { nx := fun _ H' => Q .non H', rt := Q } (L2.start Ng [.ref f]) H
def tLamN (T : List (Addr × Str)) (TT : (XK → Hp → VK → Prop) → Hp → VK → Prop) (t : XK → TE) : TE := fun σ H Q => Tabs T H ∧ ∀ H1, ExtN H H1 → (∀ b, H1 b = none → H b = none) → Tabs T H1 → TT (fun E H' Q' => t E σ H' Q') H1 Q
section
variable {X : Cx}
theorem pe_lamcallN {T : List (Addr × Str)} {TT : (XK → Hp → VK → Prop) → Hp → VK → Prop} {x a : Str} {g c P : Addr} {k : Nat} {pg : Arguments} {bg : List Stmt} {sg : Scope} {dV kV doc pm cdv ct oc : Value} {an od : Option Addr} {osl : Array (Option Value)} {Ng : List Str}
    {params : Arguments} {body : Expr} {scope : Scope} {t : XK → TE} {p lpos pos : Pos} (hg : Gl X x) (hm : X.mg x = some (.ref g)) (hk : PySem.W.keepIn X.K (.ref g) = true)
    (lk : X.K.lookup g = some ⟨oc, od, .func (PySem.W.fnOf x x pg bg sg dV kV doc pm an cdv ct), osl⟩) (hcg : PySem.W.codeIn X.K cdv x = true) (hb : L2.Binds X.K (PySem.W.fnOf x x pg bg sg dV kV doc pm an cdv ct) [a] []) (Sg : FnScope Ng [a] sg) (hNg : Ng[0]? = some a) (hva : Vis sg a)
    (hG : GivesToN X Ng x sg g cdv bg a (X.env.qual ++ "<lambda>") TT)
    (TB : TabB X.base X.mg c P) (hcode : X.env.code = .ref c) (hmT : (P, X.env.qual ++ "<lambda>") ∈ T) (hu : ∀ p ∈ T, p.1 = P → p.2 = X.env.qual ++ "<lambda>") (hr : Room (k + 2) X.A) (L : LamS X.env.scope scope) (hdef : defaultsOf params X.env = ([], []))
    (hbind : ∀ (q : Str) (cl : List (Str × Addr)) (pm cv ctv : Value), bindArgs (PySem.W.kla_fn "<lambda>" q params body scope cl pm cv ctv) ⟨[], []⟩ = pure [])
    (hbody : ∀ (A : Around) (outer : List PySem.Env) (s : Shared) (H : Hp) (E : XK) (f c' : Addr), Room k (A.deeper (lamEnv X scope s.heap.objs.size f c')) → PE (lamCxN X A outer s H E scope f c') body (t E))
    (hdb : (x == ("__debug__" : Str)) = false := by decide) (hd : (a == ("__debug__" : Str)) = false := by decide) (hcd : (a == ("__classdict__" : Str)) = false := by decide) :
    PE X (.Call (.Name x p) [.Lambda params body scope lpos] [] pos) (tLamN T TT t) := by
  refine ⟨fun pins s σ H Q I h => ?_⟩
  obtain ⟨hT, h⟩ := h
  refine wpAny_Call_Name_kw (ld_glob I hg hm ?_ hdb)
  refine PySem.W.callWith_K (h₀ := X.base) I.ok.mod.kin hk ?_ (by rfl) (by rfl)
  show wpAny _ _ (spliced ((false, eval (.Lambda params body scope lpos) X.env) :: backTo pos (starEach [] X.env))) _ _ s
  refine Calls.spliced_cons (lam_make3 I TB hcode hmT hu hT hdef (L.has I.ok) fun f c' pm' ctv H1 s' I1 eN dN T1 hf hfn hfr hco => ?_)
  refine Calls.spliced_nil ⟨I1.kIn, ?_⟩
  have rc : codeAny (model X.prog X.w) X.A (.call (.ref g) ⟨[.ref f], []⟩) (CR C8.CX0 X.stack X.prog X.w H1 s' Q C8.E0) s' := by
    refine run_ofS (N := Ng) (ps := [a]) (us := [.ref f]) (vs := [.ref f]) lk hcg Sg hr I1.env0 (hb s' [.ref f] I1.kIn rfl) (.cons rfl .nil) rfl fun hr' => ?_
    obtain ⟨t', ht', hq'⟩ := hG f c' s' H1 Q (fun E H' Q' => t E σ H' Q') (fun W pn xe E p1 p2 tk hW => pe_actN (i := 0) I1 L hf hfn hfr (hbind _ _ _ _ _) tk hW hr' (fun A outer s H hr2 => hbody A outer s H E f c' hr2) hNg hva hd hcd) hco (h H1 eN dN T1)
    exact ⟨t', ht'.nox, hq'⟩
  refine wpAny_call (codeAny_mono rc fun r s2 hq => ?_)
  cases r with
  | error e => exact (show False from hq).elim
  | ok fl =>
    cases fl with
    | ret u => exact I1.after hq
    | next => exact False.elim hq
    | brk => exact False.elim hq
    | cont => exact False.elim hq
end
end EV
end
section
set_option linter.all false
set_option maxRecDepth 100000
/-! EvTry: x(lambda: e) where x's def calls it within a try. -/
namespace EV
open PySem PySem.W L2 PySem.Spec PyProof.Rows LamX HotX
section
variable {k : Kx} {Φ Φ' Φ1 : Frz} {H H' H1 : Hp} {σ σ' : L2.St} {ρ ρ' : Env} {fp fp' fp1 : Fp} {G G' : List Addr}
theorem prim_isE {b : Bool} : PrimR k (un1 fun x H Q => (∃ f, x = .ref (k.fa f)) ∧ Q (.bl b) H) (prim (.isE b)) := by
  intro Φ H vs ds e Q R h o
  change pIsE b ds = some e at h
  unfold pIsE at h
  split at h
  · obtain ⟨v, rfl, r⟩ := R.one
    cases h
    cases r with
    | of r => cases r; exact ⟨⟨_, rfl⟩, o.d (.bl b)⟩
  · cases h
theorem asS_ok {vs : List V} {ds : List D} {ss : List Str} (r : k.RDs Φ H vs ds) (h : asS ds = some ss) : vs = ss.map V.str := by
  induction ds generalizing vs ss with
  | nil => cases r; cases h; rfl
  | cons d ds ih =>
    cases r with
    | cons a b =>
      cases d <;> try (cases h; done)
      cases a
      simp only [asS] at h
      cases e : asS ds with
      | none => rw [e] at h; cases h
      | some ms => rw [e] at h; cases h; rw [ih b e]; rfl
def rJoin1 (K : PySem.W.Frag) (sep : Str) : V → Hp → VK → Prop := fun y H Q => ∃ p, ∃ ys : List Str, y = .ref p ∧ SqL K H p (ys.map V.str) ∧ (ys.map (·.length)).sum + ys.length * sep.length ≤ 16777216 ∧ Q (.str (Txt.join sep ys)) H
theorem prim_join {sep : Str} : PrimR k (un1 (rJoin1 k.X.K sep)) (prim (.join sep)) := by
  intro Φ H vs ds e Q R h o
  change pJoin sep ds = some e at h
  unfold pJoin at h
  split at h
  · rename_i xs
    obtain ⟨v, rfl, r⟩ := R.one
    cases hs : asS xs with
    | none => rw [hs] at h; cases h
    | some ss =>
      rw [hs, Option.bind_some] at h
      split at h
      · rename_i hc
        cases h
        obtain ⟨a, us, rfl, ho, r⟩ := r.lstI
        rw [asS_ok r hs] at ho
        have := of_decide_eq_true hc
        exact ⟨a, ss, rfl, SqL.of ho, by omega, o.d (.str _)⟩
      · cases h
  · cases h
theorem ar_join {sep : Str} {e : Expr} {as : As} {j} {p apos pos : Pos} (h : PAs k [e] as) (hs : starEach [e] k.X.env = [(false, eval e k.X.env)] := by rfl) (hbase : attributeBase (.Constant (.str sep) j p) "join" k.X.env (eval (.Constant (.str sep) j p) k.X.env) = eval (.Constant (.str sep) j p) k.X.env := by rfl) (hline : (apos.endLine == pos.line) = true := by rfl) :
    AR k (.Call (.Attribute (.Constant (.str sep) j p) "join" apos) [e] [] pos) as (un1 (rJoin1 k.X.K sep)) := by
  obtain ⟨ta, h1, m, e0⟩ := pas1m h
  show PE k.X _ fun σ H Q => tAs k as σ H fun vs H1 => un1 _ vs H1 Q
  rw [e0]
  refine pe_of (pe_join (pe_str) h1 hs hbase hline) fun σ H Q q => ?_
  refine ⟨⟨sep, rfl⟩, m σ H _ _ (fun v H' z => ?_) q⟩
  obtain ⟨p, ys, z1, z2, z3, z4⟩ := z
  exact ⟨sep, p, ys, rfl, by rw [z1], .inl z2, z3, z4⟩
theorem pst_asgN {W : List Nat} {i : Nat} {y : Str} {e : Expr} {x : X} {p pos : Pos} (nd : k.X.N.Nodup) (hi : k.X.N[i]? = some y) (h : PX k e x) (hy : Loc k.X.env.scope y := by first | exact .inl rfl | exact .inr rfl) (hf : k.X.fn y = true ∨ k.X.env.scope.names.lookup y = some .local := by first | exact .inl rfl | exact .inr rfl) (hw : i ∈ W := by decide) (hs : swapsWith e (some (.Name y p)) pos.line k.X.env = pure false := by rfl) : PSt k W (.Assign [.Name y p] e pos) (.asg i x) :=
  ps_of (ps_set nd hi hy h hs hf) fun D σ H q => asg_tx hw q

/-! ### a list in a slot, walked in a suite -/
theorem piq_of {X : Cx} {tg e : Expr} {t t' : TI} (h : PIQ X tg e t) (hh : ∀ σ H R, t' σ H R → t σ H R) : PIQ X tg e t' := ⟨fun pins s σ H R I q => h.run pins s σ H R I (hh σ H R q)⟩
theorem piq_len {X : Cx} {tg e : Expr} {wi : TI} (h : PIQ X tg e wi) : PIQ X tg e (fun σ H R => wi σ H fun J H' => Lens X.K H' → R J H') := by
  refine ⟨fun pins s σ H R I q => ?_⟩
  refine thn (h.run pins s σ H _ I q) fun v s1 h1 => thn h1 fun u s2 ⟨it, fp, tn, J, H', e, I', T, st, f, r⟩ => ⟨it, fp, tn, J, H', e, I', T, st, f, r ?_⟩
  intro a xs h
  rcases h with h | h
  · obtain ⟨_, _, _, z⟩ := I'.list h; exact z
  · obtain ⟨_, _, _, z⟩ := I'.tuple h; exact z
theorem psq_slt {tg e : Expr} {i : Nat} (h : PE k.X e (tVar i)) : PIQ k.X tg e (TIx k (.sltL i)) :=
  piq_of (piq_len (piq_list h)) fun σ H R ⟨ρ, Φ, fp, S, T, q⟩ => by
    unfold evSrc at q
    split at q
    · rename_i xs hl
      obtain ⟨v, h1, re⟩ := S.env.at_ i _ hl
      obtain ⟨a, vs, rfl, hf, h3, rds⟩ := re.lI
      refine ⟨.ref a, h1, a, rfl, ⟨vs, SqL.of h3⟩, fun ln => q _ _ H fp [(a, .lst vs)] Stp.refl S T (by rw [← rds.length]; exact ln a vs (.inl (SqL.of h3))) (fun p hp => ?_) (walkD_list rds)⟩
      rw [List.mem_singleton.mp hp]
      exact ⟨h3, (fun _ z => by cases z), .inr (.inr ⟨i, List.mem_singleton.mpr rfl, by rw [hf]; simp⟩)⟩
    · exact q.elim
theorem tgOk_tpT {is : List Nat} : TgOk k (gTup k.X.K is.length (gNs is)) (.tpT is) := ⟨fun v d σ ρ ρ1 Φ H fp Q r S hb q => by
  cases d with
  | tup zs =>
    cases r with
    | tup e r =>
      have z := gNs_ok is (Q := Q) r S hb q
      exact ⟨_, _, rfl, SqT.of e, z.2, z.1⟩
  | _ => cases hb⟩
/-- name = [..] in a suite -/
theorem pst_asgLcQ {W : List Nat} {i : Nat} {y : Str} {py spos : Pos} {elt tg iter : Expr} {ifs : List Expr} {scope : Scope} {pos : Pos} {g : TG} {src : Src} {tgI : Tg} {t z : X} (ow : List (Str × Nat)) (hc : L2H.HotC k.X) (hst : k.X.stack = k.X.env :: k.X.outer) (hfr : k.X.env.frame = some k.X.env.locals) (nd : k.X.N.Nodup) (hi0 : k.X.N[i]? = some y) (hy : k.X.env.scope.names.lookup y = some .local) (hi : PIQ k.X tg iter (TIx k src)) (bo : blkC k.X.N k.X.env.scope scope ow = true) (go : TgOk k g tgI) (hs : ∀ i ∈ tgI.slots, i ∈ ow.map (·.2))
    (hg : ∀ (s : Shared) (H : Hp) (C : Addr) (cl : List (Str × Addr)) (fp : List Addr), HotB k.X s H fp → PG (kblk k s H scope C cl fp).X tg g) (ht : ∀ (s : Shared) (H : Hp) (C : Addr) (cl : List (Str × Addr)) (fp : List Addr), PTs (kblk k s H scope C cl fp).X ifs (TT (kb k) t))
    (he : ∀ (s : Shared) (H : Hp) (C : Addr) (cl : List (Str × Addr)) (fp : List Addr), PX (kblk k s H scope C cl fp) elt z) (hsw : swapsWith (.ListComp elt [⟨tg, iter, ifs, 0⟩] scope pos) (some (.Name y py)) spos.line k.X.env = pure true) (hw : i ∈ W := by decide) (hf : ∀ x, foldedSetIterable iter k.X.env x = pure x := by intro _; rfl) :
    PSt k W (.Assign [.Name y py] (.ListComp elt [⟨tg, iter, ifs, 0⟩] scope pos) spos) (.asg i (.lc (ow.map (·.2)) tgI src t z)) :=
  ps_of (ps_setLcQ hc hst hfr nd hi0 hy hsw hi (blkOk_by bo) hg ht (fun s H C cl fp => he s H C cl fp) hf) fun D σ H q => lc_turns (n := 0) go hs (asg_tx hw q)
end

/-! ### the def that calls it -/
def c0 : Calls := ⟨fun _ _ => .bad, fun _ _ => none, fun _ _ => .bad, false⟩
/-- the suite's own Kx: the only def known is the exception at a -/
abbrev kS (X : Cx) (T : List (Addr × Str)) (ca : Nat → Addr) (a : Addr) : Kx := ⟨X, c0, fun _ _ _ => False, T, fun _ => a, ca⟩
/-- the suite's reading: of the class n the statements Ss n -/
def tsS (X : Cx) (T : List (Addr × Str)) (ca : Nat → Addr) (W : List Nat) (m : Nat) (Sn : Nat → Ss) : Addr → Value → Option Addr → TS := fun a cls d D σ H => ∃ n, n < m ∧ cls = .ref (ca n) ∧ d = none ∧ (σ.length = X.N.length → TSsx (kS X T ca a) W (Sn n) D σ H)
def DQ (Q : VK) : Ends := { nx := fun _ H' => Q (.str "") H', rt := Q }
def TTs (K : PySem.W.Frag) (c : Value) (ts : Addr → Value → Option Addr → TS) : (XK → Hp → VK → Prop) → Hp → VK → Prop := fun tl H Q => tl (fun cls d H' => ∀ σ', wAs K c 1 ts (fun _ _ _ _ => False) (DQ Q) cls d σ' H') H (fun _ H' => Q (.str "") H')
theorem takes0 {X : Cx} : L2N.Takes X (fun _ _ _ _ => False) := fun _ _ x => by
  obtain ⟨_, _, _, _, _, _, _, _, _, _, _, _, _, _, _, _, z⟩ := x
  exact z.elim
/-- try: a() except x as e: suite; return '' -/
theorem gives {X : Cx} {Ng : List Str} {x : Str} {sg : Scope} {g : Addr} {cdg : Value} {a e px : Str} {q : Str} {b0 : Stmt} {suite : List Stmt} {p1 p2 p3 p4 p5 p6 p7 p8 : Pos} {j} {c : Value} {ts : Addr → Value → Option Addr → TS}
    (nd : Ng.Nodup) (hi : Ng[1]? = some e) (hl : sg.names.lookup e = some .local) (hg : sg.names.lookup px = some .globalImplicit) (hd : (px == ("__debug__" : Str)) = false) (hm : X.mg px = some c)
    (hsu : ∀ (s : Shared) (H : Hp) (ad : Addr) (oe : Obj) (cls : Value) (d : Option Addr) (pn : List (Addr × Obj)), L2N.Zn cls d oe → (∃ vs, oe.data = .fields vs) → PSs ((cxOf C8.CX0 X.prog X.w X.K X.mg X.base Ng x sg g cdg X.A X.stack s H C8.E0).nox.suite ad ((ad, oe) :: pn)) (b0 :: suite) (ts ad cls d)) :
    GivesToN X Ng x sg g cdg [.Try [.Expr (.Call (.Name a p1) [] [] p2) p3] [.ExceptHandler (some (.Name px p4)) (some e) (b0 :: suite) p5] [] [] p6, .Return (some (.Constant (.str "") j p7)) p8] a q (TTs X.K c ts) := by
  intro f c' s H Q tl hP hco hTT
  refine ⟨_, pss_cons (L2N.ps_try_as (i := 1) (c := c) (Wout := fun _ _ _ _ => False) rfl rfl nd hi hl ⟨hg, hd, .inl hm⟩ takes0 (fun W pn xe tkW po => pss_one (ps_expr (hP W pn xe (fun cls d H' => ∀ σ', W cls d σ' H') p1 p2 tkW fun cls d σ' H' h => h σ') rfl)) fun ad oe cls d pn hz hf => hsu s H ad oe cls d pn hz hf) (pss_one (ps_ret pe_str)), ?_⟩
  exact ⟨rfl, hco, hTT⟩

/-! ### the call -/
def onlyD (ρ : Env) : Env := ρ.map fun o => match o with | some (.d x) => some (.d x) | _ => none
theorem look_onlyD (ρ : Env) (i : Nat) (e : E) (h : look (onlyD ρ) i = some e) : ∃ x, e = .d x ∧ look ρ i = some (.d x) := by
  induction ρ generalizing i with
  | nil => cases i <;> cases h
  | cons o r ih =>
    cases i with
    | zero =>
      cases o with
      | none => cases h
      | some z =>
        cases z with
        | d y => cases h; exact ⟨_, rfl, rfl⟩
        | _ => cases h
    | succ i => exact ih i h
theorem onlyD_length (ρ : Env) : (onlyD ρ).length = ρ.length := List.length_map ..
section
variable {k : Kx} {Φ Φ' Φ1 : Frz} {H H' H1 : Hp} {σ σ' : L2.St} {ρ ρ' : Env} {fp fp' fp1 : Fp} {G G' : List Addr}
/-- the slots behind what touches none of theirs -/
theorem Sta.far (s : k.Sta Φ H σ ρ fp []) (x : Ext (fun _ => False) Φ H Φ' H') (w : Wd Φ' H' (fun _ => False)) : k.Sta Φ' H' σ ρ fp [] ∧ Stp Φ H fp Φ' H' fp [] := by
  have w0 : Wd Φ H (fun _ => False) := s.wd.sub fun _ z => z.elim
  refine ⟨⟨s.env.ext w0 x fun _ _ z => z, ⟨fun a z q => ?_, w.tr, fun a z => ?_⟩, List.nodup_nil, fun a z => nomatch z⟩, x.mono' fun _ z => z.elim, fun a z => z.elim .inl fun z => nomatch z⟩
  · rcases z with z | z
    · rcases x.back a q with q | q | q
      · exact s.wd.nf a (.inl z) q
      · exact q
      · have := s.wd.mu a (.inl z)
        rw [q] at this; exact this
    · cases z
  · rcases z with z | z
    · have m := s.wd.mu a (.inl z)
      cases e : H a with
      | none => rw [e] at m; exact m.elim
      | some o =>
        rw [e] at m
        rw [x.keep a o e (fun z => z) fun ps h => by rw [h] at m; exact m]
        exact m
    · cases z
theorem ext_N (w : Wd Φ H (fun _ => False)) (e : ExtN H H1) (d : ∀ b, H1 b = none → H b = none) : Ext (fun _ => False) Φ H Φ H1 ∧ Wd Φ H1 (fun _ => False) :=
  ⟨⟨fun _ z => z, fun _ z => .inl z, fun b o h _ n => e b o h n, d⟩, ⟨fun _ z => z.elim, fun a z q => w.tr a z (d a q), fun _ z => z.elim⟩⟩
theorem Ext.nil_of {F : Addr → Prop} (x : Ext F Φ H Φ' H') (h : ∀ a, ¬ F a) : Ext (fun _ => False) Φ H Φ' H' := x.mono' fun a z => h a z
/-- the state that the suite starts from -/
theorem suite_sta {K : PySem.W.Frag} {a : Addr} {n i : Nat} (w : Wd Φ H (fun _ => False)) (hi : i < n) (hl : σ.length = n) (hv : σ[i]? = some (some (.ref a))) : EV.Sta K (fun _ => a) Φ H σ (put (List.replicate n none) i (some (.d (.fn 0)))) (fun _ => []) [] := by
  have no : ∀ x, ¬ own (fun _ => ([] : List Addr)) x := fun x ⟨_, z⟩ => nomatch z
  refine ⟨⟨fun j e h => ?_, fun _ _ => rfl, fun _ => List.nodup_nil, fun _ _ _ z => (nomatch z), by rw [put_length, List.length_replicate]; exact hl⟩, w.sub fun x z => z.elim (fun z => no x z) fun z => (nomatch z), List.nodup_nil, fun _ z => nomatch z⟩
  rw [look_put, List.length_replicate, look_rep] at h
  by_cases e' : j = i
  · subst e'
    rw [if_pos ⟨rfl, hi⟩] at h
    cases h
    exact ⟨_, hv, .d (.fn 0)⟩
  · rw [if_neg (fun z => e' z.1)] at h; cases h
abbrev kl (k : Kx) (A : Around) (outer : List PySem.Env) (s : Shared) (H : Hp) (E' : XK) (scope : Scope) (f c' : Addr) : Kx := ⟨lamCxN k.X A outer s H E' scope f c', { k.c with c1 := k.c.c2 }, E', k.T, k.fa, k.ca⟩
theorem kl_ok {n : Nat} {A : Around} {outer : List PySem.Env} {s : Shared} {H : Hp} {E' : XK} {scope : Scope} {f c' : Addr} (ok : KOk k n) (tok : TOk k n) (hr : Room (n - 2) (A.deeper (lamEnv k.X scope s.heap.objs.size f c'))) : KOk (kl k A outer s H E' scope f c') (n - 2) := by
  have tk : L2N.Takes (lamCxN k.X A outer s H E' scope f c') (fun cls d _ H => E' cls d H) := L2N.takes_of rfl rfl rfl rfl
  refine ⟨rfl, ?_, hr, L2N.passes_call tk fun _ _ _ _ h => h, tok.fns2⟩
  have := hr.un
  show (A.deeper (lamEnv k.X scope s.heap.objs.size f c')).units + 66 < cLine
  omega
/-- x(lambda: e) -/
theorem px_tried {n m sl : Nat} {W : List Nat} {Sn : Nat → Ss} {fi : Nat} {x a : Str} {g c P : Addr} {pg : Arguments} {bg : List Stmt} {sg : Scope} {dV kV doc pm cdv ct oc : Value} {an od : Option Addr} {osl : Array (Option Value)} {Ng : List Str} {Xs : Cx} {pe : Value}
    {params : Arguments} {body : Expr} {e : X} {scope : Scope} {p lpos pos : Pos} (ok : KOk k n) (tok : TOk k n) (hg : Gl k.X x) (hm : k.X.mg x = some (.ref g)) (hk : PySem.W.keepIn k.X.K (.ref g) = true)
    (lk : k.X.K.lookup g = some ⟨oc, od, .func (PySem.W.fnOf x x pg bg sg dV kV doc pm an cdv ct), osl⟩) (hcg : PySem.W.codeIn k.X.K cdv x = true) (hb : L2.Binds k.X.K (PySem.W.fnOf x x pg bg sg dV kV doc pm an cdv ct) [a] []) (Sg : FnScope Ng [a] sg) (hNg : Ng[0]? = some a) (hva : Vis sg a)
    (hXs : Xs.K = k.X.K) (hXN : Xs.N.length = sl) (hsl : 1 < sl)
    (hG : GivesToN k.X Ng x sg g cdv bg a (k.X.env.qual ++ "<lambda>") (TTs k.X.K pe (tsS Xs k.T k.ca W m Sn)))
    (h0 : ∀ d, k.c.hnd fi 0 = some d → d = .str "")
    (h1 : ∀ q d, k.c.hnd fi (q + 1) = some d → q < m ∧ PySem.W.exmOne k.X.K (.ref (k.ca q)) pe = some true ∧ ∃ w ρ', d = .str w ∧ evSs c0 (Sn q) (put (List.replicate sl none) 1 (some (.d (.fn 0)))) = .rt (.d (.str w)) ρ')
    (TB : TabB k.X.base k.X.mg c P) (hcode : k.X.env.code = .ref c) (hmT : (P, k.X.env.qual ++ "<lambda>") ∈ k.T) (hu : ∀ p ∈ k.T, p.1 = P → p.2 = k.X.env.qual ++ "<lambda>") (L : LamS k.X.env.scope scope) (hdef : defaultsOf params k.X.env = ([], []))
    (hbind : ∀ (q : Str) (cl : List (Str × Addr)) (pm cv ctv : Value), bindArgs (PySem.W.kla_fn "<lambda>" q params body scope cl pm cv ctv) ⟨[], []⟩ = pure [])
    (hbody : ∀ (A : Around) (outer : List PySem.Env) (s : Shared) (H : Hp) (E' : XK) (f c' : Addr), KOk (kl k A outer s H E' scope f c') (n - 2) → PX (kl k A outer s H E' scope f c') body e)
    (hdb : (x == ("__debug__" : Str)) = false := by decide) (hd : (a == ("__debug__" : Str)) = false := by decide) (hcd : (a == ("__classdict__" : Str)) = false := by decide) :
    PX k (.Call (.Name x p) [.Lambda params body scope lpos] [] pos) (.tried fi e) := by
  by_cases hdp : k.c.deep = true
  · have h2n := tok.deep hdp
    have hn2 : n - 2 + 2 = n := by omega
    refine pe_of (pe_lamcallN (k := n - 2) (T := k.T) (TT := TTs k.X.K pe (tsS Xs k.T k.ca W m Sn)) (t := fun E' => TX (kl k k.X.A [] k.X.s_0 k.X.H_0 E' scope 0 0) e) hg hm hk lk hcg hb Sg hNg hva hG TB hcode hmT hu (by rw [hn2]; exact ok.hr) L hdef hbind (fun A outer s H E' f c' hr => hbody A outer s H E' f c' (kl_ok ok tok hr)) hdb hd hcd) fun σ H Q ⟨ρ, Φ, fp, S, T, q⟩ => ⟨T, fun H1 eN dN T1 => ?_⟩
    have w0 : Wd Φ H (fun _ => False) := S.wd.sub fun _ z => z.elim
    obtain ⟨x1, w1⟩ := ext_N w0 eN dN
    have no : ∀ y, ¬ own (fun _ => ([] : List Addr)) y := fun y ⟨_, z⟩ => nomatch z
    have S1 : k.Sta Φ H1 σ (onlyD ρ) (fun _ => []) [] := by
      refine ⟨⟨fun j e h => ?_, fun _ _ => rfl, fun _ => List.nodup_nil, fun _ _ _ z => (nomatch z), by rw [onlyD_length]; exact S.env.len⟩, w1.sub fun y z => z.elim (fun z => no y z) fun z => (nomatch z), List.nodup_nil, fun _ z => nomatch z⟩
      obtain ⟨y, rfl, hl⟩ := look_onlyD ρ j e h
      obtain ⟨v, z1, z2⟩ := S.env.at_ j _ hl
      exact ⟨v, z1, .d (z2.dI.1.ext w0 x1)⟩
    refine ⟨onlyD ρ, Φ, fun _ => [], S1, T1, ?_⟩
    unfold evX at q
    rw [if_pos hdp] at q
    replace q : PostX k Φ H σ fp Q (match evX { k.c with c1 := k.c.c2 } e (onlyD ρ) with
      | .ok (.d _, _) => (match k.c.hnd fi 0 with
        | some d => .ok (.d d, ρ)
        | none => .bad)
      | .exc q => (match k.c.hnd fi (q + 1) with
        | some d => .ok (.d d, ρ)
        | none => .bad)
      | _ => .bad) := q
    -- any state behind it, its answer
    have fin : ∀ {w : Str} {Φ2 : Frz} {H2 : Hp}, Ext (fun _ => False) Φ H1 Φ2 H2 → Wd Φ2 H2 (fun _ => False) → k.Tb H2 → PostX k Φ H σ fp Q (.ok (.d (.str w), ρ)) → Q (.str w) H2 := fun {w Φ2 H2} x2 w2 T2 q => by
      have x12 : Ext (fun _ => False) Φ H Φ2 H2 := x1.trans x2 fun _ z => z.elim
      obtain ⟨S2, st2⟩ := Sta.far S x12 w2
      exact q (.str w) Φ2 H2 fp [] st2 S2 (.d (.str w)) T2
    cases hx : evX { k.c with c1 := k.c.c2 } e (onlyD ρ) with
    | bad => rw [hx] at q; exact q.elim
    | ok z =>
      obtain ⟨e1, ρ1⟩ := z
      rw [hx] at q
      intro v Φ2 H2 fp2 G2 st2 S2 re2 T2
      have x2 : Ext (fun _ => False) Φ H1 Φ2 H2 := st2.ext.nil_of no
      have w2 : Wd Φ2 H2 (fun _ => False) := S2.wd.sub fun _ z => z.elim
      cases e1 with
      | d y =>
        replace q : PostX k Φ H σ fp Q (match k.c.hnd fi 0 with
          | some d => .ok (.d d, ρ)
          | none => .bad) := q
        cases hh : k.c.hnd fi 0 with
        | none => rw [hh] at q; exact q.elim
        | some d =>
          rw [hh] at q
          rw [h0 d hh] at q
          exact fin x2 w2 T2 q
      | _ => exact q.elim
    | exc r =>
      rw [hx] at q
      replace q : PostX k Φ H σ fp Q (match k.c.hnd fi (r + 1) with
        | some d => .ok (.d d, ρ)
        | none => .bad) := q
      cases hh : k.c.hnd fi (r + 1) with
      | none => rw [hh] at q; exact q.elim
      | some d =>
        rw [hh] at q
        obtain ⟨hrm, hex, w, ρ', rfl, hev⟩ := h1 r d hh
        intro Φ2 H2 x2 w2 T2 σ2
        have x2' : Ext (fun _ => False) Φ H1 Φ2 H2 := x2.nil_of no
        refine ⟨true, hex, fun _ ad had => ⟨r, hrm, rfl, rfl, fun hl => ?_⟩, fun z => nomatch z⟩
        rw [hXN] at hl
        have hv : (σ2.set 1 (some (V.ref ad)))[1]? = some (some (.ref ad)) := List.getElem?_set_self (by rw [List.length_set] at hl; omega)
        have SS := suite_sta (K := Xs.K) (a := ad) (n := sl) (i := 1) w2 hsl hl hv
        refine ⟨_, Φ2, fun _ => [], SS, T2, ?_⟩
        rw [hev]
        intro v σ3 Φ3 H3 fp3 G3 st3 S3 re3 T3 kp3
        have x3 : Ext (fun _ => False) Φ2 H2 Φ3 H3 := st3.ext.nil_of no
        obtain ⟨rd, _⟩ := re3.dI
        cases rd
        exact fin (x2'.trans x3 fun _ z => z.elim) (S3.wd.sub fun _ z => z.elim) T3 q
  · refine ⟨fun pins s σ H Q I ⟨ρ, Φ, fp, S, T, q⟩ => ?_⟩
    unfold evX at q
    rw [if_neg hdp] at q
    exact q.elim
end

/-- isinstance(e, C), e the exception -/
theorem ar_isE {X0 : Cx} {T : List (Addr × Str)} {ca : Nat → Addr} {ad : Addr} {oe : Obj} {pn : List (Addr × Obj)} {q : Nat} {b : Bool} {cname : Str} {cj : Addr} {ee : Expr} {p p2 pos : Pos} (C : ExcC X0.K (ca q)) (hz : L2N.Zn (.ref (ca q)) none oe) (hf : ∃ vs, oe.data = .fields vs) (hk : PySem.W.kitOne X0.K (.ref (ca q)) (.ref cj) = some b)
    (hg : Gl (X0.suite ad ((ad, oe) :: pn)) "isinstance") (hm : X0.mg "isinstance" = none) (hg2 : Gl (X0.suite ad ((ad, oe) :: pn)) cname) (hm2 : X0.mg cname = some (.ref cj)) (h : PE (X0.suite ad ((ad, oe) :: pn)) ee (tVar 1)) (hd : (cname == ("__debug__" : Str)) = false := by decide)
    (he : starEach [ee, .Name cname p2] (X0.suite ad ((ad, oe) :: pn)).env = (false, eval ee (X0.suite ad ((ad, oe) :: pn)).env) :: starEach [.Name cname p2] (X0.suite ad ((ad, oe) :: pn)).env := by rfl) (he2 : starEach [.Name cname p2] (X0.suite ad ((ad, oe) :: pn)).env = (false, eval (.Name cname p2) (X0.suite ad ((ad, oe) :: pn)).env) :: starEach [] (X0.suite ad ((ad, oe) :: pn)).env := by rfl) (hpl : (backTo pos (starEach [.Name cname p2] (X0.suite ad ((ad, oe) :: pn)).env)).any (·.1) = false := by rfl) :
    AR (kS (X0.suite ad ((ad, oe) :: pn)) T ca ad) (.Call (.Name "isinstance" p) [ee, .Name cname p2] [] pos) (.slt 1 .nil) (un1 fun x H Q => (∃ f : Nat, x = .ref ((kS (X0.suite ad ((ad, oe) :: pn)) T ca ad).fa f)) ∧ Q (.bl b) H) := by
  refine pe_of (pe_callB (call_isE C hz.zc hf) hg hm PyProof.Rows.boot_isinstance (pa_cons h (pa_cons (pe_glob (v := .ref cj) hg2 hm2 rfl hd) pa_nil he2) he) (by decide) (by decide) he hpl) fun σ H Q q => ?_
  obtain ⟨v, hv, ⟨f, e⟩, q⟩ := q
  have e : v = .ref ad := e
  subst e
  exact ⟨_, hv, .ref cj, .ref cj, b, rfl, fun u r => r, hk, q⟩
/-- GivesToN by the suite's derivations -/
theorem givesS {X : Cx} {Ng : List Str} {x : Str} {sg : Scope} {g : Addr} {cdg : Value} {a e px : Str} {q : Str} {b0 : Stmt} {suite : List Stmt} {p1 p2 p3 p4 p5 p6 p7 p8 : Pos} {j} {c : Value} {T : List (Addr × Str)} {ca : Nat → Addr} {W : List Nat} {m : Nat} {Sn : Nat → Ss}
    (nd : Ng.Nodup) (hi : Ng[1]? = some e) (hl : sg.names.lookup e = some .local) (hg : sg.names.lookup px = some .globalImplicit) (hd : (px == ("__debug__" : Str)) = false) (hm : X.mg px = some c)
    (hsu : ∀ (s : Shared) (H : Hp) (ad : Addr) (oe : Obj) (n : Nat) (pn : List (Addr × Obj)), n < m → L2N.Zn (.ref (ca n)) none oe → (∃ vs, oe.data = .fields vs) →
      PSts (kS ((cxOf C8.CX0 X.prog X.w X.K X.mg X.base Ng x sg g cdg X.A X.stack s H C8.E0).nox.suite ad ((ad, oe) :: pn)) T ca ad) W (b0 :: suite) (Sn n)) :
    GivesToN X Ng x sg g cdg [.Try [.Expr (.Call (.Name a p1) [] [] p2) p3] [.ExceptHandler (some (.Name px p4)) (some e) (b0 :: suite) p5] [] [] p6, .Return (some (.Constant (.str "") j p7)) p8] a q (TTs X.K c (tsS { X with N := Ng } T ca W m Sn)) :=
  gives nd hi hl hg hd hm fun s H ad oe cls d pn hz hf => ⟨fun pins s' σ H' D I ⟨n, hn, e1, e2, h⟩ => by
    subst e1
    subst e2
    exact (hsu s H ad oe n pn hn hz hf).run pins s' σ H' D I (h I.len)⟩

theorem hotC_of {X : Cx} {ad : Addr} {oe : Obj} {cls : Value} {d : Option Addr} {pn : List (Addr × Obj)} (hz : L2N.Zn cls d oe) (hf : ∃ vs, oe.data = .fields vs) : L2H.HotC (X.suite ad ((ad, oe) :: pn)) := by
  obtain ⟨vs, e⟩ := hf
  exact ⟨(ad, oe), ⟨rfl, vs, e, hz.2.2 vs e⟩, List.mem_cons_self⟩
/-- the first handler's suite -/
def suiteOf : List Stmt → List Stmt
  | .Try _ (.ExceptHandler _ _ b _ :: _) _ _ _ :: _ => b
  | _ => []

def endsS (r : SR) (w : Str) : Bool := match r with
  | .rt (.d (.str v)) _ => decide (v = w)
  | _ => false
theorem endsS_ok {r : SR} {w : Str} (h : endsS r w = true) : ∃ ρ', r = .rt (.d (.str w)) ρ' := by
  unfold endsS at h
  split at h
  · rename_i v ρ'
    exact ⟨ρ', by rw [of_decide_eq_true h]⟩
  · cases h

theorem KOk.u100 {k : Kx} {n : Nat} (ok : KOk k n) : k.X.A.units + 100 < cLine := by
  have := ok.hr.un
  omega
end EV
end
section
set_option linter.all false
set_option maxRecDepth 100000
/-! EvEnd: from the defs to the law. -/
namespace EV
open PySem PySem.W L2 PySem.Spec PyProof.Rows LamX
theorem evD_brk {c : Calls} {np nv : Nat} {io : List Nat} {es : List E} : evD c ⟨np, nv, io, .cons .brk .nil⟩ es = .bad := by
  unfold evD
  cases enter ⟨np, nv, io, .cons .brk .nil⟩ es with
  | none => rfl
  | some ρ => rfl
theorem scr_rd {K : PySem.W.Frag} {fa : Nat → Addr} {H : Hp} {a : Addr} {ns : List Int} (h : SqL K H a (ns.map V.int)) : ∃ Φ : Frz, RD K fa Φ H (.ref a) (.scr ns) ∧ Wd Φ H (fun _ => False) := by
  rcases h with (h | ⟨o, h⟩) | ⟨o, its, n, h1, h2, h3, h4, h5, h6⟩
  · exact ⟨fun b => b = a, .scrL rfl h, fun _ z => z.elim, (fun b z e => by have z : b = a := z; subst z; rw [h] at e; cases e), fun _ z => z.elim⟩
  · exact ⟨fun _ => False, .scrF h, fun _ z => z.elim, fun b z => z.elim, fun _ z => z.elim⟩
  · exact ⟨fun _ => False, .scrK h1 h2 h3 h4 h5 h6, fun _ z => z.elim, fun b z => z.elim, fun _ z => z.elim⟩
theorem law_sp {L : Lw} {call : List E → R (E × List (Option E))} {ns : List Int} {a : Addr} {H : Hp} (hT : ∀ q ∈ L.T, H q.1 = some (.tbl #[])) (hS : SqL L.K H a (ns.map V.int)) (hrun : ∃ os, call [.d (.scr ns)] = .ok (.d (.bl true), os)) :
    spD L.K L.fa L.ca L.T call [.ref a] H (fun v _ => v = .bl true) (fun _ _ _ => False) := by
  obtain ⟨Φ, rd, w⟩ := scr_rd (fa := L.fa) hS
  obtain ⟨os, e⟩ := hrun
  refine ⟨[.d (.scr ns)], Φ, [[]], .cons (.d rd) .nil, List.nodup_nil, (w.sub fun x z => by cases z), (fun q hq => TabS.nil (hT q hq)), ?_⟩
  rw [e]
  intro v Φ' H' G' Ls' x w' nd sub re ro t
  obtain ⟨r, _⟩ := re.dI
  cases r
  rfl
theorem fn_bad {L : Lw} {p : Prg} (h0 : ∀ f, ∃ fd ps, PySem.W.keepIn L.K (.ref (L.fa f)) = true ∧ Binds L.K fd ps []) : ∀ n f (call : List E → R (E × List (Option E))), (∀ es, call es = .bad) → FnAtL L n call f := fun n f call hb => by
  obtain ⟨fd, ps, h1, h2⟩ := h0 f
  exact ⟨fd, ps, ⟨fun vs H Q E q => absurd q (spD_bad hb), fun A outer s H args us vs Q E _ _ _ _ q => absurd q (spD_bad hb)⟩, h1, h2⟩
/-- one def, its callees known -/
theorem fn_step {L : Lw} {p : Prg} {n f : Nat} {d : Def} {N ps : List Str} {x : Str} {params : Arguments} {body : List Stmt} {scope : Scope} {W : List Nat} {fd : FuncData} (h0 : ∀ f, ∃ fd ps, PySem.W.keepIn L.K (.ref (L.fa f)) = true ∧ Binds L.K fd ps []) (hf : p.defs[f]? = some d) (F : FunD L.K x x params body scope [] [] (L.fa f) fd) (tx : DefTx L f d N ps x params body scope W) (hb : BodyOk L p f d N x body scope W)
    (ih : ∀ m, m < n + 1 → ∀ g, FnAtL L m ((runs p m).1 g) g) : FnOk L.P L.w L.K L.mg L.base (L2N.CX L.P L.w) (n + 1) (L.fa f) fd ps (spD L.K L.fa L.ca L.T ((runs p (n + 1)).1 f)) := by
  have ec : (runs p (n + 1)).1 f = evD (mkCalls p n (runs p n)) d := by
    funext es
    show (match p.defs[f]? with | some d => evD (mkCalls p n (runs p n)) d es | none => R.bad) = _
    rw [hf]
  rw [ec]
  obtain ⟨oc, od, dV, kV, doc, pm, an, cdv, ct, osl, rfl, lk, hcd, _, _⟩ := F.ex
  refine fn_of lk hcd tx.sc (fun vs H Q E q => ?_) (fun A outer s H vs Q E hr q => ⟨_, hb n _ cdv A outer s H E rfl ⟨oc, od, osl, _, lk, rfl, He.codeIn_ref hcd⟩ ?_, def_body (k := L.kx (mkCalls p n (runs p n)) N x scope (L.fa f) cdv A outer s H E) rfl tx.nv tx.io q⟩)
  · obtain ⟨es, Φ, Ls, r, nd, w, T, q⟩ := q
    rw [r.length.1, ← tx.np]
    exact evD_len fun z => by rw [z] at q; exact q
  · have tk : L2N.Takes (cxOf (L2N.CX L.P L.w) L.P L.w L.K L.mg L.base N x scope (L.fa f) cdv A outer s H E) (fun cls d _ H => E cls d H) := L2N.takes_of rfl rfl rfl rfl
    refine ⟨⟨rfl, ?hu, hr, L2N.passes_call tk fun _ _ _ _ h => h, fun g => ih n (Nat.lt_succ_self n) g⟩, tk, passes_of rfl, tx.sc.nd, fun g => ?_, fun h => of_decide_eq_true h⟩
    case hu =>
      have := hr.un
      show (A.deeper (envOfC x scope s.heap.objs.size (L.fa f) cdv)).units + 66 < cLine
      omega
    rcases runs_3 p n with h | h
    · have z := ih (n - 2) (by omega) g
      show FnAtL L (n - 2) ((runs p n).2.2 g) g
      rw [h g]
      exact z
    · exact fn_bad (p := p) h0 (n - 2) g _ (h g)
/-- a def's texts and its derivation -/
theorem fn_allT {L : Lw} {p : Prg} (hd : ∀ f d, p.defs[f]? = some d → DefOk L p f d ∨ d.body = .cons .brk .nil) (h0 : ∀ f, ∃ fd ps, PySem.W.keepIn L.K (.ref (L.fa f)) = true ∧ Binds L.K fd ps []) : ∀ n f, FnAtL L n ((runs p n).1 f) f := by
  intro n
  induction n using Nat.strongRecOn with
  | _ n ih =>
    intro f
    cases n with
    | zero => exact fn_bad (p := p) h0 0 f _ fun _ => rfl
    | succ n =>
      cases hf : p.defs[f]? with
      | none => exact fn_bad (p := p) h0 (n + 1) f _ fun es => by show (match p.defs[f]? with | some d => evD (mkCalls p n (runs p n)) d es | none => R.bad) = .bad; rw [hf]
      | some d =>
        rcases hd f d hf with ⟨N, ps, x, params, body, scope, W, tx, hb⟩ | hbk
        · obtain ⟨fd, F, hbd⟩ := tx.fun_
          exact ⟨fd, ps, fn_step h0 hf F tx hb ih, F.kp, hbd⟩
        · refine fn_bad (p := p) h0 (n + 1) f _ fun es => ?_
          show (match p.defs[f]? with | some d => evD (mkCalls p n (runs p n)) d es | none => R.bad) = .bad
          rw [hf]
          obtain ⟨np, nv, io, body⟩ := d
          have hbk : body = .cons .brk .nil := hbk
          subst hbk
          exact evD_brk
theorem hcd_of {L : Lw} {f : Addr} {cdv : Value} {x : Str} (hf : f = He.fAd L.K (x, none)) (hc : CodeAt L f cdv) : cdv = .ref (He.cT L.K (x, none)).1 := by
  obtain ⟨oc, od, osl, fd, lk, e, c, e2⟩ := hc
  subst hf
  have := He.codeOf_eq lk (e.trans e2)
  rw [e2]
  exact congrArg Value.ref this.symm

/-! ### facts of the head that the Hook's own do not tell -/
open He in
def excCB (K : PySem.W.Frag) (D : Addr) : Bool :=
  eqO (PySem.W.findIn K (.ref D) "__getattribute__") (some (some (.builtin "BaseException.__getattribute__"))) && (eqO (PySem.W.findIn K (.ref D) "__getattr__") (some none) && (decide (PySem.W.subIn K (.ref D) (.type "BaseException") = some true) && (PySem.W.hasDictIn K D && (eqO (PySem.W.findIn K (.ref D) "__class__") (some (some (.builtin "object.__class__"))) &&
    (eqO (PySem.W.specialIn K (.builtin "object.__class__") "__get__") (some (some (.builtin "getset_descriptor.__get__"))) && (decide (PySem.W.takesIn K (.builtin "object.__class__") = some true) && decide (PySem.W.mroIn K D (.type "object") = some true)))))))
theorem excCB_ok {K : PySem.W.Frag} {D : Addr} (h : excCB K D = true) : ExcC K D := by
  obtain ⟨h1, h⟩ := He.ba h
  obtain ⟨h2, h⟩ := He.ba h
  obtain ⟨h3, h⟩ := He.ba h
  obtain ⟨h4, h⟩ := He.ba h
  obtain ⟨h5, h⟩ := He.ba h
  obtain ⟨h6, h⟩ := He.ba h
  obtain ⟨h7, h8⟩ := He.ba h
  exact ⟨He.eqO_ok h1, He.eqO_ok h2, of_decide_eq_true h3, h4, He.eqO_ok h5, He.eqO_ok h6, of_decide_eq_true h7, of_decide_eq_true h8⟩
def caOf (cn : List Str) (K : PySem.W.Frag) (q : Nat) : Addr := He.ga K (cn.getD q "")
def exAll (cn : List Str) (isB : Nat → Nat → Bool) (lamd : List Str) (K : PySem.W.Frag) : Bool :=
  (List.range cn.length).all (fun q => excCB K (caOf cn K q) && (decide (PySem.W.exmOne K (.ref (caOf cn K q)) (.ref (caOf cn K 0)) = some true) && (List.range cn.length).all fun j => decide (PySem.W.kitOne K (.ref (caOf cn K q)) (.ref (caOf cn K j)) = some (isB q j)))) &&
    lamd.all fun d => lamd.all fun d' => !decide ((He.cT K (d, none)).2 = (He.cT K (d', none)).2) || decide (d = d')
section
variable {cn : List Str} {isB : Nat → Nat → Bool} {lamd : List Str} {K : PySem.W.Frag} (h : exAll cn isB lamd K = true)
include h
theorem exAll_c (q : Nat) (hq : q < cn.length) : ExcC K (caOf cn K q) ∧ PySem.W.exmOne K (.ref (caOf cn K q)) (.ref (caOf cn K 0)) = some true ∧ ∀ j, j < cn.length → PySem.W.kitOne K (.ref (caOf cn K q)) (.ref (caOf cn K j)) = some (isB q j) := by
  have h1 := List.all_eq_true.mp (He.ba h).1 q (List.mem_range.mpr hq)
  obtain ⟨a, b⟩ := He.ba h1
  obtain ⟨b, c⟩ := He.ba b
  exact ⟨excCB_ok a, of_decide_eq_true b, fun j hj => of_decide_eq_true (List.all_eq_true.mp c j (List.mem_range.mpr hj))⟩
theorem exAll_u {qL : Str → Str} {d : Str} (hd : d ∈ lamd) : ∀ p ∈ lamd.map (fun d => ((He.cT K (d, none)).2, qL d)), p.1 = (He.cT K (d, none)).2 → p.2 = qL d := by
  intro p hp e
  obtain ⟨d', hd', rfl⟩ := List.mem_map.mp hp
  have h1 := List.all_eq_true.mp (List.all_eq_true.mp (He.ba h).2 d hd) d' hd'
  have e : (He.cT K (d', none)).2 = (He.cT K (d, none)).2 := e
  rw [e] at h1
  simp at h1
  rw [h1]
end
end EV
end
section
set_option linter.all false
set_option maxRecDepth 100000
/-! EvM: steps of the evaluator, for simp; rules for loops and comprehensions. -/
namespace EV
open PySem
section
variable {α β : Type}
theorem R.bindk (a : α) (f : α → R β) : R.bind (.ok a) f = f a := rfl
theorem R.bind_exc (c : Nat) (f : α → R β) : R.bind (.exc c) f = .exc c := rfl
theorem R.toS_ok (a : α) (f : α → SR) : R.toS (.ok a) f = f a := rfl
theorem R.toS_exc (c : Nat) (f : α → SR) : R.toS (.exc c) f = .exc c := rfl
theorem R.ofO_some (a : α) : R.ofO (some a) = .ok a := rfl
theorem isB_ok (b : Bool) (ρ : Env) : EV.isB (.ok (.d (.bl b), ρ)) = .ok (b, ρ) := rfl
theorem isB_exc (c : Nat) : EV.isB (.exc c) = .exc c := rfl
end
/-! names for what is run behind: no step goes into what is not reached -/
def SR.seq (r : SR) (f : Env → SR) : SR := match r with
  | .nx ρ' => f ρ'
  | z => z
theorem SR.seq_nx (ρ : Env) (f : Env → SR) : SR.seq (.nx ρ) f = f ρ := rfl
theorem SR.seq_rt (e : E) (ρ : Env) (f : Env → SR) : SR.seq (.rt e ρ) f = .rt e ρ := rfl
theorem SR.seq_exc (k : Nat) (f : Env → SR) : SR.seq (.exc k) f = .exc k := rfl
theorem SR.seq_bk (ρ : Env) (f : Env → SR) : SR.seq (.bk ρ) f = .bk ρ := rfl
theorem SR.seq_ct (ρ : Env) (f : Env → SR) : SR.seq (.ct ρ) f = .ct ρ := rfl
def kFin (e : E) (os : List (Option E)) : R (E × List (Option E)) := .ok (e, os)
def SR.fin (io : List Nat) (np : Nat) (r : SR) : R (E × List (Option E)) := match r with
  | .nx ρ' => (R.ofO (outE io ρ' 0 np)).bind (kFin (.d .non))
  | .rt e ρ' => (R.ofO (outE io ρ' 0 np)).bind (kFin e)
  | .exc k => .exc k
  | _ => .bad
theorem SR.fin_nx (io : List Nat) (np : Nat) (ρ : Env) : SR.fin io np (.nx ρ) = (R.ofO (outE io ρ 0 np)).bind (kFin (.d .non)) := rfl
theorem SR.fin_rt (io : List Nat) (np : Nat) (e : E) (ρ : Env) : SR.fin io np (.rt e ρ) = (R.ofO (outE io ρ 0 np)).bind (kFin e) := rfl
theorem SR.fin_exc (io : List Nat) (np : Nat) (k : Nat) : SR.fin io np (.exc k) = .exc k := rfl
theorem mk_c1 (p : Prg) (n : Nat) (t : Call × Call × Call) : (mkCalls p n t).c1 = t.1 := rfl
theorem mk_c2 (p : Prg) (n : Nat) (t : Call × Call × Call) : (mkCalls p n t).c2 = t.2.2 := rfl
theorem mk_hnd (p : Prg) (n : Nat) (t : Call × Call × Call) : (mkCalls p n t).hnd = p.hnd := rfl
theorem mk_deep (p : Prg) (n : Nat) (t : Call × Call × Call) : (mkCalls p n t).deep = decide (2 ≤ n) := rfl
abbrev RX := R (E × Env)
def kE (ρ : Env) (e : E) : RX := .ok (e, ρ)
def kV (e : E) (ρ : Env) : RX := .ok (e, ρ)
def kPr (p : Prim) (r : List Arg × Env) : RX := (R.ofO ((fillD r.2 r.1).bind (prim p))).bind (kE r.2)
def kNot (r : Bool × Env) : RX := .ok (.d (.bl (!r.1)), r.2)
def kBl (r : Bool × Env) : RX := .ok (.d (.bl r.1), r.2)
def kAnd (c : Calls) (b : X) (r : Bool × Env) : RX := if r.1 then (isB (evX c b r.2)).bind kBl else .ok (.d (.bl false), r.2)
def kOr (c : Calls) (b : X) (r : Bool × Env) : RX := if r.1 then .ok (.d (.bl true), r.2) else (isB (evX c b r.2)).bind kBl
def kCh3 (o2 : Prim) (v : E) (z : E × Env) : RX := (R.ofO (prim o2 [v.frz, z.1.frz])).bind (kE z.2)
def kCh2 (c : Calls) (o1 o2 : Prim) (x : X) (v : E) (q : E × Env) : RX := match prim o1 [v.frz, q.1.frz] with
  | some (.d (.bl true)) => (evX c x q.2).bind (kCh3 o2 q.1)
  | some (.d (.bl false)) => .ok (.d (.bl false), q.2)
  | _ => .bad
def kCh1 (c : Calls) (o1 o2 : Prim) (b x : X) (r : E × Env) : RX := (evX c b r.2).bind (kCh2 c o1 o2 x r.1)
def kIte (c : Calls) (a b : X) (r : Bool × Env) : RX := if r.1 then evX c a r.2 else evX c b r.2
def kC3 (r : List Arg × Env) (q : E × List (Option E)) : RX := (R.ofO (back r.2 r.1 q.2)).bind (kV q.1)
def kC2 (c : Calls) (f : Nat) (r : List Arg × Env) (es : List E) : RX := (c.c1 f es).bind (kC3 r)
def kC1 (c : Calls) (f : Nat) (r : List Arg × Env) : RX := (R.ofO (fillE r.2 r.1)).bind (kC2 c f r)
def kCv (c : Calls) (as : As) (ρ : Env) (o : Option E) : RX := match o with
  | some (.d (.fn f)) => (evAs c as ρ).bind (kC1 c f)
  | _ => .bad
theorem kCv_fn (c : Calls) (as : As) (ρ : Env) (f : Nat) : kCv c as ρ (some (.d (.fn f))) = (evAs c as ρ).bind (kC1 c f) := rfl
def kLk {α : Type} (o : Option E) (k : R α) : R α := match o with
  | some _ => k
  | none => .bad
theorem kLk_some {α : Type} (e : E) (k : R α) : kLk (some e) k = k := rfl
def kL3 (own : List Nat) (z : E × Env) : R (Option D × Env) := .ok (some z.1.frz, wipes z.2 own)
def kL2 (c : Calls) (own : List Nat) (e : X) (q : Bool × Env) : R (Option D × Env) := if q.1 then (evX c e q.2).bind (kL3 own) else .ok (none, wipes q.2 own)
def kL1 (c : Calls) (own : List Nat) (t e : X) (ρ1 : Env) : R (Option D × Env) := (isB (evX c t ρ1)).bind (kL2 c own e)
def lcG (c : Calls) (own : List Nat) (tg : Tg) (t e : X) (x : D) (ρ : Env) : R (Option D × Env) := (R.ofO (bindT tg x ρ)).bind (kL1 c own t e)
def kLb (own : List Nat) (r : List D × Env × List Nat) (z : List D × Env) : RX := .ok (.l z.1, restore r.2.1 z.2 (own ++ r.2.2))
def kLa (c : Calls) (own : List Nat) (tg : Tg) (t e : X) (r : List D × Env × List Nat) : RX := (lcL (lcG c own tg t e) r.1 (wipes r.2.1 (own ++ r.2.2))).bind (kLb own r)
def kLc (own : List Nat) (r : List D × Env × List Nat) (z : List D × Env) : RX := if few z.1.length then .ok (.l z.1, restore r.2.1 z.2 (own ++ r.2.2)) else .bad
/-- two sources -/
def kM2 (own own2 : List Nat) (r2 : List D × Env × List Nat) (z : List D × Env) : R (List D × Env) := .ok (z.1, wipes (restore r2.2.1 z.2 (own2 ++ r2.2.2)) own)
def kM1 (c : Calls) (own own2 : List Nat) (tg2 : Tg) (t2 e : X) (r2 : List D × Env × List Nat) : R (List D × Env) := (lcL (lcG c own2 tg2 t2 e) r2.1 (wipes r2.2.1 (own2 ++ r2.2.2))).bind (kM2 own own2 r2)
def kM0 (c : Calls) (own own2 : List Nat) (tg2 : Tg) (src2 : Src) (t2 e : X) (q : Bool × Env) : R (List D × Env) := if q.1 then (evSrc c src2 q.2).bind (kM1 c own own2 tg2 t2 e) else .ok ([], wipes q.2 own)
def kMt (c : Calls) (own own2 : List Nat) (t : X) (tg2 : Tg) (src2 : Src) (t2 e : X) (ρ1 : Env) : R (List D × Env) := (isB (evX c t ρ1)).bind (kM0 c own own2 tg2 src2 t2 e)
def lcG2 (c : Calls) (own own2 : List Nat) (tg : Tg) (t : X) (tg2 : Tg) (src2 : Src) (t2 e : X) (x : D) (ρ : Env) : R (List D × Env) := (R.ofO (bindT tg x ρ)).bind (kMt c own own2 t tg2 src2 t2 e)
def kLa2 (c : Calls) (own own2 : List Nat) (tg : Tg) (t : X) (tg2 : Tg) (src2 : Src) (t2 e : X) (r : List D × Env × List Nat) : RX := (lcL2 (lcG2 c own own2 tg t tg2 src2 t2 e) r.1 (wipes r.2.1 (own ++ r.2.2))).bind (kLc own r)
def kPa (i : Nat) (r : E × Env) : RX := match r.1, look r.2 i with
  | .d (.int k), some (.l xs) => (match L2.ixN xs.length k with
    | some j => (match xs[j]? with
      | some x => .ok (.d x, put r.2 i (some (.l (xs.eraseIdx j))))
      | none => .bad)
    | none => .bad)
  | _, _ => .bad
def kAs (i : Nat) (q : List Arg × Env) : R (List Arg × Env) := .ok (.s i :: q.1, q.2)
def kAy (e : E) (q : List Arg × Env) : R (List Arg × Env) := .ok (.v e :: q.1, q.2)
def kAx (c : Calls) (r : As) (v : E × Env) : R (List Arg × Env) := (evAs c r v.2).bind (kAy v.1)
abbrev RS := R (List D × Env × List Nat)
def kS3 (ρ : Env) (hid : List Nat) (xs : List D) : RS := .ok (xs, ρ, hid)
def kSx (r : E × Env) : RS := (R.ofO (keysD r.1.frz)).bind (kS3 r.2 [])
def kSr (n : Nat) (r : List Arg × Env) : RS := (R.ofO ((fillD r.2 r.1).bind (rngL n))).bind (kS3 r.2 [])
def kSe (ρ : Env) (hid : List Nat) (xs : List D) : RS := .ok (enumL 0 xs, ρ, hid)
def kSen (r : E × Env) : RS := (R.ofO (itemsOf r.1.frz)).bind (kSe r.2 [])
def zipD (ds : List D) : Option (List D) := match ds with
  | [.lst xs, .lst ys] => some (zipL xs ys)
  | [.tup xs, .tup ys] => some (zipL xs ys)
  | [.lst xs, .tup ys] => some (zipL xs ys)
  | _ => none
def kSz (r : List Arg × Env) : RS := (R.ofO ((fillD r.2 r.1).bind zipD)).bind (kS3 r.2 (slots r.1))
def kAsg (i : Nat) (r : E × Env) : SR := .nx (put r.2 i (some r.1))
def kUnp (tg : Tg) (r : E × Env) : SR := match bindT tg r.1.frz r.2 with
  | some ρ1 => .nx ρ1
  | none => .bad
def kPar (is : List Nat) (r : List Arg × Env) : SR := match fillE r.2 r.1 with
  | some es => .nx ((is.zip es).foldl (fun ρ p => put ρ p.1 (some p.2)) r.2)
  | none => .bad
def kSj (i : Nat) (v : E) (q : E × Env) : SR := match look q.2 i with
  | some e => (match setE e q.1.frz v.frz with
    | some e' => .nx (put q.2 i (some e'))
    | none => .bad)
  | none => .bad
def kSi (c : Calls) (i : Nat) (a : X) (r : E × Env) : SR := if (look r.2 i).isSome then (evX c a r.2).toS (kSj i r.1) else .bad
def kApp (i : Nat) (r : E × Env) : SR := match look r.2 i with
  | some (.l xs) => if few xs.length then .nx (put r.2 i (some (.l (xs ++ [r.1.frz])))) else .bad
  | _ => .bad
def kEx (r : E × Env) : SR := .nx r.2
def kSIte (c : Calls) (a b : Ss) (r : Bool × Env) : SR := if r.1 then evSs c a r.2 else evSs c b r.2
def fB (c : Calls) (tg : Tg) (b : Ss) (x : D) (ρ : Env) : SR := match bindT tg x ρ with
  | some ρ1 => evSs c b ρ1
  | none => .bad
def kFor (c : Calls) (tg : Tg) (b : Ss) (r : List D × Env × List Nat) : SR := wrapF r.2.1 r.2.2 (forL (fB c tg b) r.1 (wipes r.2.1 r.2.2))
def kRet (r : E × Env) : SR := .rt r.1 r.2
def kD (c : Calls) (io : List Nat) (np : Nat) (b : Ss) (ρ : Env) : R (E × List (Option E)) := SR.fin io np (evSs c b ρ)
def wC (c : Calls) (x : X) (ρ : Env) : R (Bool × Env) := isB (evX c x ρ)
def wB (c : Calls) (b : Ss) (ρ : Env) : SR := evSs c b ρ
section
variable (c : Calls) (ρ : Env)
theorem evSs_nil : evSs c .nil ρ = .nx ρ := by rw [evSs]
theorem evSs_cons (s : S) (r : Ss) : evSs c (.cons s r) ρ = (evS c s ρ).seq (evSs c r) := by
  rw [evSs]; unfold SR.seq; rfl
theorem eX_pr (p : Prim) (as : As) : evX c (.pr p as) ρ = (evAs c as ρ).bind (kPr p) := by rw [evX]; rfl
theorem eX_not (a : X) : evX c (.not a) ρ = (isB (evX c a ρ)).bind kNot := by rw [evX]; rfl
theorem eX_and (a b : X) : evX c (.and a b) ρ = (isB (evX c a ρ)).bind (kAnd c b) := by rw [evX]; rfl
theorem eX_or (a b : X) : evX c (.or a b) ρ = (isB (evX c a ρ)).bind (kOr c b) := by rw [evX]; rfl
theorem eX_chn (o1 o2 : Prim) (a b x : X) : evX c (.chn o1 o2 a b x) ρ = (evX c a ρ).bind (kCh1 c o1 o2 b x) := by
  rw [evX]; unfold kCh1 kCh2; rfl
theorem eX_ite (x a b : X) : evX c (.ite x a b) ρ = (isB (evX c x ρ)).bind (kIte c a b) := by rw [evX]; rfl
theorem eX_call (f : Nat) (as : As) : evX c (.call f as) ρ = (evAs c as ρ).bind (kC1 c f) := by rw [evX]; rfl
theorem eX_callv (i : Nat) (as : As) : evX c (.callv i as) ρ = kCv c as ρ (look ρ i) := by rw [evX]; rfl
theorem evX_lc (own : List Nat) (tg : Tg) (src : Src) (t e : X) : evX c (.lc own tg src t e) ρ = (evSrc c src ρ).bind (kLa c own tg t e) := by rw [evX]; rfl
theorem evX_lc2 (own own2 : List Nat) (tg : Tg) (src : Src) (t : X) (tg2 : Tg) (src2 : Src) (t2 e : X) : evX c (.lc2 own own2 tg src t tg2 src2 t2 e) ρ = (evSrc c src ρ).bind (kLa2 c own own2 tg t tg2 src2 t2 e) := by rw [evX]; rfl
theorem eX_popAt (i : Nat) (a : X) : evX c (.popAt i a) ρ = (evX c a ρ).bind (kPa i) := by rw [evX]; unfold kPa; rfl
theorem eA_slt (i : Nat) (r : As) : evAs c (.slt i r) ρ = kLk (look ρ i) ((evAs c r ρ).bind (kAs i)) := by rw [evAs]; rfl
theorem eA_x (e : X) (r : As) : evAs c (.x e r) ρ = (evX c e ρ).bind (kAx c r) := by rw [evAs]; rfl
theorem eA_nil : evAs c .nil ρ = .ok ([], ρ) := by rw [evAs]
theorem eR_slt (i : Nat) : evSrc c (.slt i) ρ = (R.ofO (((look ρ i).bind E.rd).bind keysD)).bind (kS3 ρ [i]) := by rw [evSrc]; rfl
theorem eR_x (e : X) : evSrc c (.x e) ρ = (evX c e ρ).bind kSx := by rw [evSrc]; rfl
theorem eR_rng (n : Nat) (as : As) : evSrc c (.rng n as) ρ = (evAs c as ρ).bind (kSr n) := by rw [evSrc]; rfl
theorem eR_enS (i : Nat) : evSrc c (.enS i) ρ = (R.ofO (((look ρ i).bind E.rd).bind itemsOf)).bind (kSe ρ [i]) := by rw [evSrc]; rfl
theorem eR_en (e : X) : evSrc c (.en e) ρ = (evX c e ρ).bind kSen := by rw [evSrc]; rfl
theorem eR_zip (as : As) : evSrc c (.zip as) ρ = (evAs c as ρ).bind kSz := by rw [evSrc]; unfold kSz zipD; rfl
theorem eS_asg (i : Nat) (x : X) : evS c (.asg i x) ρ = (evX c x ρ).toS (kAsg i) := by rw [evS]; rfl
theorem eS_unp (tg : Tg) (x : X) : evS c (.unp tg x) ρ = (evX c x ρ).toS (kUnp tg) := by rw [evS]; rfl
theorem eS_par (is : List Nat) (as : As) : evS c (.par is as) ρ = (evAs c as ρ).toS (kPar is) := by rw [evS]; rfl
theorem eS_setix (i : Nat) (a x : X) : evS c (.setix i a x) ρ = (evX c x ρ).toS (kSi c i a) := by rw [evS]; rfl
theorem eS_app (i : Nat) (x : X) : evS c (.app i x) ρ = if isL (look ρ i) then (evX c x ρ).toS (kApp i) else .bad := by rw [evS]; rfl
theorem eS_expr (x : X) : evS c (.expr x) ρ = (evX c x ρ).toS kEx := by rw [evS]; rfl
theorem eS_ite (x : X) (a b : Ss) : evS c (.ite x a b) ρ = (isB (evX c x ρ)).toS (kSIte c a b) := by rw [evS]; rfl
theorem evS_for (tg : Tg) (src : Src) (b : Ss) : evS c (.for_ tg src b) ρ = (evSrc c src ρ).toS (kFor c tg b) := by rw [evS]; rfl
theorem evS_forG (tg : Tg) (i : Nat) (b : Ss) : evS c (.forG tg i b) ρ = forG i (fB c tg b) fuelW 0 ρ := by rw [evS]; rfl
theorem evS_whl (x : X) (b : Ss) : evS c (.whl x b) ρ = whileF (wC c x) (wB c b) fuelW ρ := by rw [evS]; rfl
theorem eS_ret (x : X) : evS c (.ret x) ρ = (evX c x ρ).toS kRet := by rw [evS]; rfl
theorem evD_mk (np nv : Nat) (io : List Nat) (b : Ss) (es : List E) : evD c ⟨np, nv, io, b⟩ es = (R.ofO (if es.length = np then some (entE io 0 es ++ List.replicate (nv - np) none) else none)).bind (kD c io np b) := by
  unfold evD enter outs
  show R.bind _ _ = R.bind _ _
  congr 1
end
theorem wrapF_nil (ρ : Env) (r : SR) : wrapF ρ [] r = r := by cases r <;> rfl
theorem wrapF_nx (ρ ρ' : Env) (hid : List Nat) : wrapF ρ hid (.nx ρ') = .nx (restore ρ ρ' hid) := rfl
theorem wrapF_rt (ρ ρ' : Env) (e : E) (hid : List Nat) : wrapF ρ hid (.rt e ρ') = .rt e (restore ρ ρ' hid) := rfl
theorem wrapF_exc (ρ : Env) (k : Nat) (hid : List Nat) : wrapF ρ hid (.exc k) = .exc k := rfl
/-! loops -/
theorem lcL_pure {f : D → Env → R (Option D × Env)} {ρ : Env} (g : D → Option D) : ∀ {xs : List D}, (∀ x ∈ xs, f x ρ = .ok (g x, ρ)) → lcL f xs ρ = .ok (xs.filterMap g, ρ) := by
  intro xs
  induction xs with
  | nil => intro _; rfl
  | cons x r ih =>
    intro h
    simp only [lcL]
    rw [h x (by simp)]
    simp only
    rw [ih (fun y hy => h y (List.mem_cons_of_mem _ hy))]
    simp only [List.filterMap_cons]
    cases g x <;> rfl
theorem lcL_filt {f : D → Env → R (Option D × Env)} {ρ : Env} (g : Int → Bool) (h : ∀ z, f (.int z) ρ = .ok (if g z then some (.int z) else none, ρ)) (L : List Int) : lcL f (L.map .int) ρ = .ok ((L.filter g).map .int, ρ) := by
  induction L with
  | nil => rfl
  | cons a r ih =>
    simp only [List.map_cons, lcL, h a, ih, List.filter_cons]
    cases g a <;> rfl
theorem lcL_const {f : D → Env → R (Option D × Env)} {ρ : Env} (y : D) {xs : List D} (h : ∀ x ∈ xs, f x ρ = .ok (some y, ρ)) : lcL f xs ρ = .ok (List.replicate xs.length y, ρ) := by
  induction xs with
  | nil => rfl
  | cons a r ih =>
    simp only [lcL, h a (by simp), ih (fun x hx => h x (List.mem_cons_of_mem _ hx)), List.length_cons, List.replicate_succ]
    rfl
theorem lcL_append {f : D → Env → R (Option D × Env)} : ∀ {xs zs ys ws : List D} {ρ ρ1 ρ2 : Env}, lcL f xs ρ = .ok (ys, ρ1) → lcL f zs ρ1 = .ok (ws, ρ2) → lcL f (xs ++ zs) ρ = .ok (ys ++ ws, ρ2) := by
  intro xs
  induction xs with
  | nil => intro zs ys ws ρ ρ1 ρ2 h1 h2; injection h1 with h1; injection h1 with h3 h4; subst h3 h4; exact h2
  | cons x r ih =>
    intro zs ys ws ρ ρ1 ρ2 h1 h2
    simp only [lcL] at h1
    split at h1
    · rename_i o ρ3 e
      split at h1
      · rename_i q ρ4 e2
        injection h1 with h1; injection h1 with h3 h4
        subst h3 h4
        have := ih e2 h2
        simp only [List.cons_append, lcL, e, this, List.append_assoc]
      · cases h1
    · cases h1
/-- with a state -/
theorem lcL_rel {f : D → Env → R (Option D × Env)} (I : Env → Prop) (P : D → Prop) : ∀ {xs : List D} {ρ : Env}, (∀ x ∈ xs, ∀ ρ, I ρ → ∃ o ρ', f x ρ = .ok (o, ρ') ∧ I ρ' ∧ ∀ y, o = some y → P y) → I ρ → ∃ ys ρ', lcL f xs ρ = .ok (ys, ρ') ∧ I ρ' ∧ ∀ y ∈ ys, P y := by
  intro xs
  induction xs with
  | nil => intro ρ _ hi; exact ⟨[], ρ, rfl, hi, by simp⟩
  | cons x r ih =>
    intro ρ h hi
    obtain ⟨o, ρ1, e1, h1, p1⟩ := h x (by simp) ρ hi
    obtain ⟨ys, ρ2, e2, h2, p2⟩ := ih (fun y hy => h y (List.mem_cons_of_mem _ hy)) h1
    refine ⟨o.toList ++ ys, ρ2, ?_, h2, ?_⟩
    · simp only [lcL]; rw [e1]; simp only; rw [e2]
    · intro y hy
      rcases List.mem_append.1 hy with hh | hh
      · cases o with
        | none => simp at hh
        | some z => simp at hh; subst hh; exact p1 _ rfl
      · exact p2 y hh
theorem forL_rel {f : D → Env → SR} (I : List D → Env → Prop) : ∀ {xs : List D} {ρ : Env}, (∀ x r ρ, I (x :: r) ρ → ∃ ρ', f x ρ = .nx ρ' ∧ I r ρ') → I xs ρ → ∃ ρ', forL f xs ρ = .nx ρ' ∧ I [] ρ' := by
  intro xs
  induction xs with
  | nil => intro ρ _ hi; exact ⟨ρ, rfl, hi⟩
  | cons x r ih =>
    intro ρ h hi
    obtain ⟨ρ1, e1, h1⟩ := h x r ρ hi
    obtain ⟨ρ2, e2, h2⟩ := ih h h1
    refine ⟨ρ2, ?_, h2⟩
    simp only [forL]; rw [e1]; exact e2
/-- with a word for the items -/
theorem forL_mem {f : D → Env → SR} (I : Env → Prop) {xs : List D} {ρ : Env} (h : ∀ x ∈ xs, ∀ ρ, I ρ → ∃ ρ', f x ρ = .nx ρ' ∧ I ρ') (hi : I ρ) : ∃ ρ', forL f xs ρ = .nx ρ' ∧ I ρ' := by
  obtain ⟨ρ', e, _, h2⟩ := forL_rel (f := f) (fun r ρ => (∀ x ∈ r, x ∈ xs) ∧ I ρ) (xs := xs) (ρ := ρ) (by
    intro x r ρ ⟨h1, h2⟩
    obtain ⟨ρ', e, h3⟩ := h x (h1 x (by simp)) ρ h2
    exact ⟨ρ', e, fun y hy => h1 y (List.mem_cons_of_mem _ hy), h3⟩) ⟨fun x hx => hx, hi⟩
  exact ⟨ρ', e, h2⟩
theorem forL_fold {σ : Type} {f : D → Env → SR} (st : σ → Env) (step : σ → D → σ) : ∀ {xs : List D} {s : σ}, (∀ x ∈ xs, ∀ s, f x (st s) = .nx (st (step s x))) → forL f xs (st s) = .nx (st (xs.foldl step s)) := by
  intro xs
  induction xs with
  | nil => intro s _; rfl
  | cons x r ih =>
    intro s h
    simp only [forL, List.foldl_cons]
    rw [h x (by simp)]
    exact ih (fun y hy => h y (List.mem_cons_of_mem _ hy))
theorem forL_nx {f : D → Env → SR} {x : D} {r : List D} {ρ ρ' : Env} (h : f x ρ = .nx ρ') : forL f (x :: r) ρ = forL f r ρ' := by
  rw [forL.eq_2, h]
theorem forL_rt {f : D → Env → SR} {x : D} {r : List D} {ρ ρ' : Env} {e : E} (h : f x ρ = .rt e ρ') : forL f (x :: r) ρ = .rt e ρ' := by
  rw [forL.eq_2, h]
theorem forL_nil {f : D → Env → SR} {ρ : Env} : forL f [] ρ = .nx ρ := rfl
theorem whileF_step {c : Env → R (Bool × Env)} {b : Env → SR} {n : Nat} {ρ ρ1 ρ2 : Env} (h1 : c ρ = .ok (true, ρ1)) (h2 : b ρ1 = .nx ρ2) : whileF c b (n + 1) ρ = whileF c b n ρ2 := by
  show R.toS (c ρ) _ = _
  rw [h1]; simp only [R.toS]; rw [h2]; rfl
theorem whileF_end {c : Env → R (Bool × Env)} {b : Env → SR} {n : Nat} {ρ ρ1 : Env} (h1 : c ρ = .ok (false, ρ1)) : whileF c b (n + 1) ρ = .nx ρ1 := by
  show R.toS (c ρ) _ = _
  rw [h1]; rfl
def drp : Nat → Ss → Ss
  | 0, s => s
  | n + 1, .cons _ r => drp n r
  | _ + 1, .nil => .nil
def hdS : Nat → Ss → S
  | 0, .cons s _ => s
  | n + 1, .cons _ r => hdS n r
  | _, .nil => .pass
def SR.lp (r : SR) (k : Env → SR) : SR := match r with
  | .nx ρ' => k ρ'
  | .ct ρ' => k ρ'
  | .bk ρ' => .nx ρ'
  | r => r
theorem SR.lp_nx (ρ : Env) (k : Env → SR) : SR.lp (.nx ρ) k = k ρ := rfl
theorem SR.lp_ct (ρ : Env) (k : Env → SR) : SR.lp (.ct ρ) k = k ρ := rfl
theorem SR.lp_bk (ρ : Env) (k : Env → SR) : SR.lp (.bk ρ) k = .nx ρ := rfl
theorem SR.lp_rt (e : E) (ρ : Env) (k : Env → SR) : SR.lp (.rt e ρ) k = .rt e ρ := rfl
theorem forL_cons (f : D → Env → SR) (x : D) (xs : List D) (ρ : Env) : forL f (x :: xs) ρ = SR.lp (f x ρ) (forL f xs) := by
  rw [forL.eq_2]; unfold SR.lp; rfl
theorem forL_nil' (f : D → Env → SR) (ρ : Env) : forL f [] ρ = .nx ρ := rfl
def fbS : S → Ss
  | .for_ _ _ b => b
  | .forG _ _ b => b
  | .whl _ b => b
  | .ite _ b _ => b
  | _ => .nil
theorem lcL_len {f : D → Env → R (Option D × Env)} : ∀ {xs ys : List D} {ρ ρ' : Env}, lcL f xs ρ = .ok (ys, ρ') → ys.length ≤ xs.length := by
  intro xs
  induction xs with
  | nil => intro ys ρ ρ' h; injection h with h; injection h with h _; subst h; simp
  | cons x r ih =>
    intro ys ρ ρ' h
    simp only [lcL] at h
    split at h
    · rename_i o ρ1 e
      split at h
      · rename_i q ρ2 e2
        injection h with h; injection h with h _
        subst h
        have := ih e2
        cases o <;> simp <;> omega
      · cases h
    · cases h
/-! data -/
def tI (L : List Int) : D := .tup (L.map .int)
def lI (L : List Int) : D := .lst (L.map .int)
theorem pyL_int (L : List Int) : pyL (L.map .int) = some (L.map PyData.int) := by
  induction L with
  | nil => rfl
  | cons a r ih => simp [pyL, D.py, ih]
theorem asI_int (L : List Int) : asI (L.map .int) = some L := by
  induction L with
  | nil => rfl
  | cons a r ih => simp [asI, ih]
theorem keysOf_int (L : List Int) : keysOf (L.map .int) = some (L.map Sum.inl) := by
  induction L with
  | nil => rfl
  | cons a r ih => simp [keysOf, keyOf, ih]
theorem all_flat_int (L : List Int) : (L.map D.int).all flatD = true := by
  induction L with
  | nil => rfl
  | cons a r ih => simp [flatD]
theorem inD_int (a : Int) (L : List Int) : inD (.int a) (L.map .int) = some (L.contains a) := by
  unfold inD
  rw [all_flat_int]
  simp only [flatD, Bool.and_self, if_true]
  congr 1
  induction L with
  | nil => rfl
  | cons b r ih => rw [List.map_cons, List.any_cons, ih, List.contains_cons]; simp only [eqF]; rw [Bool.beq_comm]
theorem rngD (n : Nat) : ∀ lo, rangeL lo n = ((List.range n).map fun (i : Nat) => lo + (i : Int)).map .int := by
  induction n with
  | zero => intro lo; rfl
  | succ n ih => intro lo; simp only [rangeL, ih, List.range_succ_eq_map, List.map_cons, List.map_map]; simp; intro a _; omega
theorem lay_int (L : List Int) : PyData.canLayAll0 (L.map PyData.int) = true := by
  induction L with
  | nil => rfl
  | cons a r ih => simp only [List.map_cons, PyData.canLayAll0, ih, PyData.canLay0, Bool.and_self]
theorem depth_int (L : List Int) : PyData.depthAll (L.map PyData.int) ≤ 1 := by
  induction L with
  | nil => simp [PyData.depthAll]
  | cons a r ih => simp only [List.map_cons, PyData.depthAll, PyData.depth]; omega
theorem eqvAll_int (L M : List Int) : PyData.eqvAll (L.map PyData.int) (M.map PyData.int) = decide (L = M) := by
  induction L generalizing M with
  | nil => cases M <;> simp [PyData.eqvAll]
  | cons a r ih => cases M with
    | nil => simp [PyData.eqvAll]
    | cons b q => 
      simp only [List.map_cons, PyData.eqvAll, ih, PyData.eqv]
      simp
      by_cases h : a = b <;> by_cases h2 : r = q <;> simp [h, h2]
theorem eqD_tI (L M : List Int) : eqD (.tup (L.map .int)) (.tup (M.map .int)) = some (decide (L = M)) := by
  have h1 := depth_int L
  have h2 := depth_int M
  have h3 : min (PyData.tuple (L.map PyData.int)).depth (PyData.tuple (M.map PyData.int)).depth ≤ 64 := by simp only [PyData.depth]; omega
  unfold eqD
  simp only [scalD, Bool.false_eq_true, if_false, D.py, pyL_int, Option.map_some]
  simp only [PyData.canLay0, lay_int, Bool.and_self, Bool.true_and, h3, decide_true, if_true, PyData.eqv, eqvAll_int]
theorem eqD_lI (L M : List Int) : eqD (.lst (L.map .int)) (.lst (M.map .int)) = some (decide (L = M)) := by
  have h1 := depth_int L
  have h2 := depth_int M
  have h3 : min (PyData.list (L.map PyData.int)).depth (PyData.list (M.map PyData.int)).depth ≤ 64 := by simp only [PyData.depth]; omega
  unfold eqD
  simp only [scalD, Bool.false_eq_true, if_false, D.py, pyL_int, Option.map_some]
  simp only [PyData.canLay0, lay_int, Bool.and_self, Bool.true_and, h3, decide_true, if_true, PyData.eqv, eqvAll_int]
theorem eqD_tI0 (L : List Int) : eqD (.tup (L.map .int)) (.tup []) = some (decide (L = [])) := eqD_tI L []
theorem eqD_lI0 (L : List Int) : eqD (.lst (L.map .int)) (.lst []) = some (decide (L = [])) := eqD_lI L []
theorem eqD_tI1 (L : List Int) (a : Int) : eqD (.tup (L.map .int)) (.tup [.int a]) = some (decide (L = [a])) := eqD_tI L [a]
theorem few0 : few 0 = true := rfl
theorem few1 : few 1 = true := rfl
theorem few2 : few 2 = true := rfl
theorem few3 : few 3 = true := rfl
theorem few4 : few 4 = true := rfl
theorem few5 : few 5 = true := rfl
theorem few6 : few 6 = true := rfl
theorem few7 : few 7 = true := rfl
theorem few8 : few 8 = true := rfl
theorem few9 : few 9 = true := rfl
theorem few10 : few 10 = true := rfl
theorem few11 : few 11 = true := rfl
theorem few12 : few 12 = true := rfl
theorem few13 : few 13 = true := rfl
theorem few14 : few 14 = true := rfl
theorem few15 : few 15 = true := rfl
theorem few16 : few 16 = true := rfl
theorem few17 : few 17 = true := rfl
theorem few18 : few 18 = true := rfl
theorem few19 : few 19 = true := rfl
theorem few20 : few 20 = true := rfl
theorem few21 : few 21 = true := rfl
theorem few22 : few 22 = true := rfl
theorem few23 : few 23 = true := rfl
theorem few24 : few 24 = true := rfl
theorem eqD_nil : eqD (.tup []) (.tup []) = some true := rfl
theorem eqD_nilL : eqD (.lst []) (.lst []) = some true := rfl
theorem eqD_str (s t : Str) : eqD (.str s) (.str t) = some (s == t) := rfl
theorem eqD_int (s t : Int) : eqD (.int s) (.int t) = some (s == t) := rfl
theorem eqD_bl (s t : Bool) : eqD (.bl s) (.bl t) = some (s == t) := rfl
end EV
end
section
set_option linter.all false
set_option maxRecDepth 100000
/-! EvB: a comprehension as a value, in a suite. -/
namespace EV
open PySem PySem.W L2 PySem.Spec PyProof.Rows
section
variable {X : Cx}
theorem pe_lcQ {elt tg iter : Expr} {ifs : List Expr} {scope : Scope} {own : List (Str × Nat)} {pos : Pos} {wi : TI} {g : TG} {tt : L2.TT} {te : TE} (hc : L2H.HotC X) (hst : X.stack = X.env :: X.outer) (hfr : X.env.frame = some X.env.locals) (hN : X.N.Nodup) (hi : PIQ X tg iter wi) (ok : BlkOk X.N X.env.scope scope own)
    (hg : ∀ (s : Shared) (H : Hp) (C : Addr) (cl : List (Str × Addr)) (fp : List Addr), HotB X s H fp → PG (X.blk s H scope (compEnvC scope cl C X.env) fp) tg g) (ht : ∀ (s : Shared) (H : Hp) (C : Addr) (cl : List (Str × Addr)) (fp : List Addr), PTs (X.blk s H scope (compEnvC scope cl C X.env) fp) ifs tt)
    (he : ∀ (s : Shared) (H : Hp) (C : Addr) (cl : List (Str × Addr)) (fp : List Addr), PE (X.blk s H scope (compEnvC scope cl C X.env) fp) elt te) (hs : ∀ x, foldedSetIterable iter X.env x = pure x := by intro _; rfl) :
    PE X (.ListComp elt [⟨tg, iter, ifs, 0⟩] scope pos) (tLc wi g tt te (own.map (·.2))) := by
  refine ⟨fun pins s σ H Q I h => ?_⟩
  rw [eval_ListComp]
  refine lc_coreQ hc hst hfr hN I hi ok hg ht he hs h fun D C s' m H' I' q hn f => ⟨m, hn, fun h'' sb => ?_⟩
  obtain ⟨f0, f1, f2, f3, f4, f5⟩ := f
  exact ⟨.ref D, H', I'.turned (t' := s'.toks) (fun b o hb e => (sb.2 b hb).trans e) f0 f1 f3 f4 f5, rfl, q⟩
end
section
variable {k : Kx}
theorem px_lcQ {elt tg iter : Expr} {ifs : List Expr} {scope : Scope} {pos : Pos} {g : TG} {src : Src} {tgI : Tg} {t z : X} (ow : List (Str × Nat)) (hc : L2H.HotC k.X) (hst : k.X.stack = k.X.env :: k.X.outer) (hfr : k.X.env.frame = some k.X.env.locals) (nd : k.X.N.Nodup) (hi : PIQ k.X tg iter (TIx k src)) (bo : blkC k.X.N k.X.env.scope scope ow = true) (go : TgOk k g tgI) (hs : ∀ i ∈ tgI.slots, i ∈ ow.map (·.2))
    (hg : ∀ (s : Shared) (H : Hp) (C : Addr) (cl : List (Str × Addr)) (fp : List Addr), HotB k.X s H fp → PG (kblk k s H scope C cl fp).X tg g) (ht : ∀ (s : Shared) (H : Hp) (C : Addr) (cl : List (Str × Addr)) (fp : List Addr), PTs (kblk k s H scope C cl fp).X ifs (TT (kb k) t))
    (he : ∀ (s : Shared) (H : Hp) (C : Addr) (cl : List (Str × Addr)) (fp : List Addr), PX (kblk k s H scope C cl fp) elt z) (hf : ∀ x, foldedSetIterable iter k.X.env x = pure x := by intro _; rfl) :
    PX k (.ListComp elt [⟨tg, iter, ifs, 0⟩] scope pos) (.lc (ow.map (·.2)) tgI src t z) :=
  pe_of (pe_lcQ hc hst hfr nd hi (blkOk_by bo) hg ht (fun s H C cl fp => he s H C cl fp) hf) fun σ H Q q => lc_turns (n := 0) go hs q
end
end EV
end
section
set_option linter.all false
set_option maxRecDepth 100000
/-! EvKey: max(xs, key=len), gcd by a module's name. -/
namespace EV
open PySem PySem.W L2 PySem.Spec PyProof.Rows
theorem max_len_raw {prog : Program} {w : World} {A : Around} {E : Value → Shared → Prop} {s : Shared} {Q : Value → Shared → Prop} {l : Addr} {its : Array Value} (hh : A.handled = none) (hl : s.heap.IsList l its) (hne : 0 < its.size) (lens : Nat → Nat)
    (hit : ∀ i v, its[i]? = some v → ∃ p xs, v = .ref p ∧ s.heap.IsList p xs ∧ xs.size = lens i ∧ (xs.size : Int) < 2 ^ 63)
    (h : ∀ v h' tk, its[argBest (fun i j => decide ((lens i : Int) > lens j)) (its.size - 1)]? = some v → (∀ b o, s.heap.get? b = some o → h'.get? b = some o) → Q v { s with heap := h', toks := tk }) :
    wpAny (model prog w) A (call (.builtin "max") [.ref l] [(Str.ofString "key", .builtin "len")]) Q E s := by
  have hlt : l < s.heap.objs.size := by obtain ⟨_, e, _⟩ := hl; exact Heap.lt_size e
  refine call_max_walkKB (wpAny_pyIter_list hl ?_)
  have hS : (s.heap.push { cls := .type "list_iterator", data := .fields #[.ref l, .int 0 0] }).objs.size = s.heap.objs.size + 1 := Heap.size_push ..
  refine ⟨s.heap.objs.size, _, _, _, _, _, _, fun s' => s'.gens = s.gens ∧ s'.drawn = s.drawn ∧ s'.os = s.os ∧ ∀ b o, s.heap.get? b = some o → s'.heap.get? b = some o, fun i k _ => ∃ t, k = .int (lens i) t, fun i j => decide ((lens i : Int) > lens j), rfl, (Walks.list (prog := prog) (w := w) (A := A.in1) hh s.heap.objs.size l (Nat.ne_of_lt hlt) its).toS, ⟨⟨_, Heap.get?_push_size _ rfl, rfl, rfl⟩, hl.push _⟩, fun b hb => ?_, hne, ?_, ⟨rfl, rfl, rfl, fun b o e => Heap.get?_push_of_some _ e⟩, fun v s' hP hJ => ?_⟩
  · show b < (s.heap.push _).objs.size
    rw [hS]
    rcases List.mem_cons.mp hb with rfl | hb
    · exact Nat.lt_succ_self _
    · rw [List.mem_singleton.mp hb]; exact Nat.lt_succ_of_lt hlt
  · refine ⟨fun s1 s2 hJ hm => ?_, fun i k s1 s2 hv _ => hv, fun i v s1 o Q1 E1 hi hP hJ hst hS1 hQ => ?_, fun i j ki kj s1 Q1 E1 hJ hi hj hQ => ?_⟩
    · obtain ⟨j1, j2, j3, j4⟩ := hJ
      refine ⟨hm.gens.trans j1, hm.drawn.trans j2, hm.os.trans j3, fun b o e => hm.heap b o (fun hb => ?_) (j4 b o e)⟩
      have hb2 := Heap.lt_size e
      rcases List.mem_cons.mp hb with hb | hb
      · exact Nat.lt_irrefl _ (Nat.lt_of_lt_of_le hb2 (Nat.le_of_lt (by rw [hb, hS]; exact Nat.lt_succ_self _)))
      · exact Nat.lt_irrefl _ (by rw [List.mem_singleton.mp hb] at hb2; exact hb2)
    · obtain ⟨p, xs, rfl, hp, h1, h2⟩ := hit i v hP
      have hp2 : s1.heap.IsList p xs := hp.at fun o e => hJ.2.2.2 p o e
      refine Calls.call_len_list hp2 h2 ?_
      refine hQ _ _ hJ hst hS1 ⟨_, by rw [h1]⟩ fun j k' hv => hv
    · obtain ⟨t, rfl⟩ := hi
      obtain ⟨u, rfl⟩ := hj
      exact CmpOf.ints_gt (P := fun i v => ∃ t, v = .int (lens i) t) (fun i => (lens i : Int)) (fun i v hv => hv) i j _ _ s1 Q1 E1 ⟨t, rfl⟩ ⟨u, rfl⟩ hQ
  · obtain ⟨j1, j2, j3, j4⟩ := hJ
    obtain ⟨hp', g', d', o', t'⟩ := s'
    simp only at j1 j2 j3
    subst j1 j2 j3
    exact h v _ _ hP j4
theorem argBest_first (ls : List Nat) : ∀ k, argBest (fun i j => decide ((ls.getD i 0 : Int) > (ls.getD j 0 : Int))) k = firstMax ls k
  | 0 => rfl
  | k + 1 => by
    simp only [argBest, firstMax, argBest_first ls k, decide_eq_true_eq]
    by_cases h : ls.getD (firstMax ls k) 0 < ls.getD (k + 1) 0
    · rw [if_pos h, if_pos (by omega)]
    · rw [if_neg h, if_neg (by omega)]
def rMaxLen (K : PySem.W.Frag) : List V → Hp → VK → Prop := fun vs H Q => ∃ (a : Addr) (us : List V) (ls : List Nat), vs = [.ref a] ∧ SqL K H a us ∧ 0 < us.length ∧ (∀ i u, us[i]? = some u → ∃ p ys, u = .ref p ∧ SqL K H p ys ∧ ys.length = ls.getD i 0) ∧ ∀ u, us[firstMax ls (us.length - 1)]? = some u → Q u H
section
variable {X : Cx}
theorem pe_maxLen {e : Expr} {t : TA} {p p2 pos kpos : Pos} (hc : X.calm = true) (hg : Gl X "max") (hm : X.mg "max" = none) (hg2 : Gl X "len") (hm2 : X.mg "len" = none) (ha : PA X [e] t)
    (he : backTo pos (starEach [e] X.env) = (false, eval e X.env) :: backTo pos (starEach [] X.env) := by rfl) (hpl : (backTo pos (starEach [e] X.env)).any (·.1) = false := by rfl)
    (hall : (backToKw pos (keywordEach [⟨some "key", .Name "len" p2, kpos⟩] X.env)).all (·.1.isSome) = true := by rfl) (hnone : (backToKw pos (keywordEach [⟨some "key", .Name "len" p2, kpos⟩] X.env)).any (·.1.isNone) = false := by rfl) (hks : (backToKw pos (keywordEach [⟨some "key", .Name "len" p2, kpos⟩] X.env)).filterMap (·.1) = [Str.ofString "key"] := by rfl) :
    PE X (.Call (.Name "max" p) [e] [⟨some "key", .Name "len" p2, kpos⟩] pos) (fun σ H Q => t σ H fun vs H1 => rMaxLen X.K vs H1 Q) := by
  refine ⟨fun pins s σ H Q I h => ?_⟩
  refine wpAny_Call_Name_kw (ld_blt I hg hm boot_max ?_ (by decide) (by decide))
  refine PyProof.Rows.callWith_kw (thn (ha.run pos pins s σ H _ I h) fun us s1 ⟨vs, H1, I1, r1, q1⟩ => ?_) he hpl hall hnone
  rw [hks]
  show wpAny _ _ (evalAll ((do let v ← eval (.Name "len" p2) X.env; standAt pos; pure v) :: [])) _ _ s1
  refine wpAny_evalAll_cons (wpAny_bind (ld_blt I1 hg2 hm2 boot_len (wpAny_bind (wpAny_standAt (wpAny_pure (wpAny_evalAll_nil ?_)))) (by decide) (by decide)))
  obtain ⟨a, ws, ls, rfl, hs, hne, hit, q⟩ := q1
  obtain ⟨its, rv, hl, _⟩ := I1.list hs
  rw [Vals.ref1 r1]
  have hlen := rv.length
  refine max_len_raw (I1.ok.hd hc) hl.isList (by rw [List.size_toArray]; omega) (fun i => ls.getD i 0) (fun i v hv => ?_) fun v h' tk hv hk => ?_
  · have hv2 : its[i]? = some v := by simpa using hv
    have hi : i < ws.length := by
      have := (List.getElem?_eq_some_iff.1 hv2).1
      omega
    obtain ⟨w, hw⟩ : ∃ w, ws[i]? = some w := ⟨ws[i], List.getElem?_eq_getElem hi⟩
    obtain ⟨p, ys, rfl, hq, hy⟩ := hit i w hw
    obtain ⟨u, hu, ru⟩ := rv.get hw
    rw [hv2] at hu
    cases hu
    cases ru
    obtain ⟨its2, rv2, hl2, hz⟩ := I1.list hq
    have hn := line63
    have hlen2 := rv2.length
    exact ⟨p, _, rfl, hl2.isList, by rw [List.size_toArray, ← hy]; omega, by rw [List.size_toArray]; omega⟩
  · rw [List.size_toArray, argBest_first] at hv
    have hv2 : its[firstMax ls (its.length - 1)]? = some v := by simpa using hv
    have hi : firstMax ls (its.length - 1) < ws.length := by
      have := (List.getElem?_eq_some_iff.1 hv2).1
      omega
    obtain ⟨w, hw⟩ : ∃ w, ws[firstMax ls (its.length - 1)]? = some w := ⟨_, List.getElem?_eq_getElem hi⟩
    obtain ⟨u, hu, ru⟩ := rv.get hw
    rw [hv2] at hu
    cases hu
    exact ⟨w, H1, I1.kept (t' := tk) hk, ru, q w (by rw [show ws.length = its.length by omega]; exact hw)⟩
end
section
variable {k : Kx}
theorem ar_maxLen {e : Expr} {as : As} {p p2 pos kpos : Pos} (hc : k.X.calm = true) (hg : Gl k.X "max") (hm : k.X.mg "max" = none) (hg2 : Gl k.X "len") (hm2 : k.X.mg "len" = none) (h : PAs k [e] as)
    (he : backTo pos (starEach [e] k.X.env) = (false, eval e k.X.env) :: backTo pos (starEach [] k.X.env) := by rfl) (hpl : (backTo pos (starEach [e] k.X.env)).any (·.1) = false := by rfl)
    (hall : (backToKw pos (keywordEach [⟨some "key", .Name "len" p2, kpos⟩] k.X.env)).all (·.1.isSome) = true := by rfl) (hnone : (backToKw pos (keywordEach [⟨some "key", .Name "len" p2, kpos⟩] k.X.env)).any (·.1.isNone) = false := by rfl) (hks : (backToKw pos (keywordEach [⟨some "key", .Name "len" p2, kpos⟩] k.X.env)).filterMap (·.1) = [Str.ofString "key"] := by rfl) :
    AR k (.Call (.Name "max" p) [e] [⟨some "key", .Name "len" p2, kpos⟩] pos) as (rMaxLen k.X.K) := pe_maxLen hc hg hm hg2 hm2 h.pa he hpl hall hnone hks
theorem lensOf_get : ∀ {xs : List D} {ls : List Nat}, lensOf xs = some ls → ls.length = xs.length ∧ ∀ i x, xs[i]? = some x → ∃ ys, x = .lst ys ∧ ls.getD i 0 = ys.length := by
  intro xs
  induction xs with
  | nil => intro ls h; cases h; exact ⟨rfl, fun i x hx => by simp at hx⟩
  | cons a r ih =>
    intro ls h
    cases a with
    | lst zs =>
      simp only [lensOf] at h
      cases hr : lensOf r with
      | none => rw [hr] at h; cases h
      | some q =>
        rw [hr] at h
        cases h
        obtain ⟨h1, h2⟩ := ih hr
        refine ⟨by simp [h1], fun i x hx => ?_⟩
        cases i with
        | zero => simp at hx; subst hx; exact ⟨zs, rfl, rfl⟩
        | succ i => exact h2 i x (by simpa using hx)
    | _ => cases h
theorem prim_maxLen : PrimR k (rMaxLen k.X.K) (prim .maxLen) := by
  intro Φ H vs ds e Q R h o
  change pMaxLen ds = some e at h
  unfold pMaxLen at h
  split at h
  · rename_i xs
    obtain ⟨v, rfl, r⟩ := R.one
    cases hs : lensOf xs with
    | none => rw [hs] at h; cases h
    | some ls =>
      rw [hs, Option.bind_some] at h
      cases hx : xs[firstMax ls (xs.length - 1)]? with
      | none => rw [hx] at h; cases h
      | some x =>
        rw [hx] at h
        cases h
        obtain ⟨a, us, rfl, ho, r⟩ := r.lstI
        obtain ⟨h1, h2⟩ := lensOf_get hs
        have hl := r.length
        have hpos : 0 < xs.length := by have := (List.getElem?_eq_some_iff.1 hx).1; omega
        refine ⟨a, us, ls, rfl, SqL.of ho, by omega, fun i u hu => ?_, fun u hu => ?_⟩
        · have hi := (List.getElem?_eq_some_iff.1 hu).1
          obtain ⟨x2, hx2⟩ : ∃ x2, xs[i]? = some x2 := ⟨xs[i]'(by omega), List.getElem?_eq_getElem (by omega)⟩
          obtain ⟨ys, rfl, hy⟩ := h2 i x2 hx2
          obtain ⟨u2, hu2, ru⟩ := r.get hx2
          rw [hu] at hu2
          cases hu2
          cases ru with
          | lst _ hp r3 => exact ⟨_, _, rfl, SqL.of hp, by rw [hy, r3.length]⟩
        · obtain ⟨u2, hu2, ru⟩ := r.get hx
          rw [hl] at hu
          rw [hu] at hu2
          cases hu2
          exact o.d ru
  · cases h
theorem ar_bf {id : String} {x : Str} {e : Expr} {es : List Expr} {as : As} {r : List V → Hp → VK → Prop} {p pos : Pos} (hc : CallR k.X (.builtin id) r) (hg : Gl k.X x) (hm : k.X.mg x = some (.builtin id)) (h : PAs k (e :: es) as) (hdb : (x == ("__debug__" : Str)) = false := by decide)
    (he : starEach (e :: es) k.X.env = (false, eval e k.X.env) :: starEach es k.X.env := by rfl) (hpl : (backTo pos (starEach es k.X.env)).any (·.1) = false := by rfl) : AR k (.Call (.Name x p) (e :: es) [] pos) as r := pe_callBfun hc hg hm h.pa hdb he hpl
end
end EV
end
section
set_option linter.all false
set_option maxRecDepth 100000
/-! EvBoot: the head of a program that opens with imports. -/
noncomputable section
namespace EV
open PySem PySem.W PySem.Calls PyProof.Rows HandSHeadRun
/-- behind the top, from any state -/
def endB (st : SharedT → Thread → Option (SharedT × Thread)) (M : Nat) (p : Program) (h : Heap) (gs : Array GenState) (dr : Drawn) (tk : Nat) (os : OsState) : Option SharedT :=
  (putAll h.objs.toList .nil 0).bind fun tn => frNat tn.2 fun n0 => goF st n0 (h.nsMap mainGlobals "__annotations__") M ⟨tn.1, n0, h.life, gs, dr, tk, os⟩ (topStub p)
theorem endB_ok {M : Nat} {p : Program} {w : World} {h : Heap} {gs : Array GenState} {dr : Drawn} {tk : Nat} {os : OsState} {s : SharedT} (hh : endB (stepT (denote treeTable) p w) M p h gs dr tk os = some s) :
    topRun treeTable p w h.objs.size (h.nsMap mainGlobals "__annotations__") M ⟨h, gs, dr, tk, os⟩ (topStub p) = some s.abs := by
  unfold endB at hh
  cases hp : putAll h.objs.toList .nil 0 with
  | none => rw [hp] at hh; cases hh
  | some tn =>
    obtain ⟨t, n⟩ := tn
    rw [hp, Option.bind_some, frNat_eq] at hh
    have key := goF_ok hh
    have hheap := putAll_heap hp
    have hsize : h.objs.size = n := by rw [← hheap]; exact absHeap_size t n _
    have hab : (⟨t, n, h.life, gs, dr, tk, os⟩ : SharedT).abs = ⟨h, gs, dr, tk, os⟩ := by
      show (⟨absHeap t n h.life, gs, dr, tk, os⟩ : Shared) = _
      rw [hheap]
    rw [hab] at key
    rw [hsize]
    exact key
/-- what is told of a world, its opening run first -/
def tellB (st : SharedT → Thread → Option (SharedT × Thread)) (M N : Nat) (p : Program) (w : World) {α : Type} (see : Shared → α) : Option (Bool × α) :=
  match fencedOpening treeTable p w N with
  | none => none
  | some ⟨h, gs, dr, tk, os⟩ => match h.isNs mainGlobals && gs.size == 0 with
    | false => none
    | true => (endB st M p h gs dr tk os).map fun s => (looksF p h s.abs, see s.abs)
theorem leftB {p q : Program} {loose : List PySem.Str} {Xt : Shared → Bool} {α : Type} {Yf : Shared → α} {Ya : World → α} {N M : Nat} (le : M ≤ N)
    (told : ∀ w, tellB (stepT (denote treeTable) p w) M N p w (fun s => (openSeen q loose (importedModules p.main.body) Xt true s, Yf s)) = some (true, openGood q loose, Ya w)) : LeftO p q loose Xt Yf Ya N true := by
  intro w
  have t := told w
  unfold tellB at t
  unfold openEnds
  cases ho : fencedOpening treeTable p w N with
  | none => rw [ho] at t; cases t
  | some s0 =>
    obtain ⟨h, gs, dr, tk, os⟩ := s0
    rw [ho] at t
    simp only at t
    cases hg : h.isNs mainGlobals && gs.size == 0 with
    | false => rw [hg] at t; cases t
    | true =>
      rw [hg] at t
      simp only at t
      cases he : endB (stepT (denote treeTable) p w) M p h gs dr tk os with
      | none => rw [he] at t; cases t
      | some s =>
        rw [he, Option.map_some] at t
        injection t with t
        injection t with t1 t2
        injection t2 with t2 t3
        have hr := topRun_mono (N - M) _ _ _ _ (endB_ok he)
        rw [show M + (N - M) = N by omega] at hr
        have hlook : (staticsOk (importedModules p.main.body) h s.abs.heap && namesBound p s.abs.heap && gensDone s.abs && laidKept h s.abs.heap) = true := t1
        have htop : topFrom treeTable p w N ⟨h, gs, dr, tk, os⟩ = some s.abs := by
          unfold topFrom
          simp only [hg]
          rw [hr]
          simp only [Option.bind_some, hlook]
        rw [Option.bind_some, htop, Option.map_some]
        exact congrArg some (Prod.ext t2 t3)
def RunB (r : OpenRow) (q : Program) (H : Hook) (ob : SharedT → H.α) (M N : Nat) (loose : List PySem.Str) (w : World) : Prop :=
  (match fencedOpening tabQ r.prog w N with
  | none => none
  | some ⟨h, gs, dr, tk, os⟩ => match h.isNs mainGlobals && gs.size == 0 with
    | false => none
    | true => (endB (stepQ (denQ tabQ) r.prog w) M r.prog h gs dr tk os).map fun s => (looksF r.prog h s.abs, seenQ q loose (importedModules r.prog.main.body) (fun s => xlAt q [] s && recOk r.toRowW.records s) s.abs, ob s)) = some (true, openGood q loose, H.val w)
/-- the head, whatever the text opens with -/
theorem headB {r : OpenRow} {q : Program} {H : Hook} {ob : SharedT → H.α} {M N : Nat} {loose : List PySem.Str} {d : DefRec} {kwd : List (PySem.Str × PySem.Expr)} (le : M ≤ N) (ho : ∀ s : SharedT, ob s = H.obs s.abs) (run : ∀ w, RunB r q H ob M N loose w)
    (hdef : defOf q r.name = some (d, kwd)) (hp : r.prog.theDef r.name = some (d.params, d.body, d.scope)) (hk : kwWritten? d.params.kwonlyargs d.params.kw_defaults = some kwd) (hwr : (!r.writes || r.records.isEmpty) = true) (k1 : r.wellSaid = true)
    (ok : (chainsOk q && opensWell r.prog && (frees r.toRowW && r.within.isEmpty)) = true) (hb : r.prog.bare) (hw : r.toRowW.promised) (call : WalkO q loose (XL q []) H.says r.toRowW d kwd fun f vs => PySem.call f vs) : r.Holds := by
  have lf : LeftO r.prog q loose (fun s => xlAt q [] s && recOk r.toRowW.records s) H.obs H.val N true := by
    refine leftB le fun w => ?_
    have z := run w
    unfold RunB at z
    have eo : ob = fun s => H.obs s.abs := funext ho
    rw [eo] at z
    unfold tellB
    rw [stepQ_eq, denQ_eq, tabQ_eq]
    simp only [seenQ_eq]
    exact z
  refine holds_open (r := r) (q := q) (loose := loose) (XP := XL q []) (YP := H.says) (d := d) (kwd := kwd) lf H.of H.keeps ?_ XL.keeps hdef hp hk ?_ hwr k1 ok hb hw call
  · intro s z; exact xl_of s (Bool.and_eq_true_iff.mp z).1
  · intro s z; exact recFacts_of (Bool.and_eq_true_iff.mp z).2
end EV
end
set_option maxRecDepth 100000
local macro_rules | `(tactic| simp? only [$ls,*]) => `(tactic| simp -implicitDefEqProofs only [EV.mk_c1, EV.mk_c2, EV.mk_hnd, EV.mk_deep, EV.evD_mk, EV.entE, EV.outE, EV.evSs_nil, EV.evSs_cons, EV.eS_asg, EV.eS_unp, EV.eS_par, EV.eS_setix, EV.eS_app, EV.eS_expr, EV.eS_ite, EV.evS_for, EV.evS_forG, EV.evS_whl, EV.eS_ret, EV.evS.eq_15, EV.evS.eq_16, EV.evS.eq_17, EV.evS.eq_18, EV.evS.eq_19, EV.evX.eq_1, EV.evX.eq_2, EV.evX.eq_3, EV.evX.eq_4, EV.evX.eq_5, EV.eX_pr, EV.eX_not, EV.eX_and, EV.eX_or, EV.eX_chn, EV.eX_ite, EV.eX_call, EV.eX_callv, EV.evX_lc, EV.evX_lc2, EV.evX.eq_16, EV.eX_popAt, EV.eA_nil, EV.eA_slt, EV.eA_x, EV.eR_slt, EV.eR_x, EV.eR_rng, EV.eR_enS, EV.eR_en, EV.eR_zip, EV.fillD, EV.fillE, EV.look, EV.put, EV.wipes, EV.restore, EV.back, EV.slots, EV.wrapF_nx, EV.wrapF_rt, EV.wrapF_exc, EV.bindT, EV.bindNs, EV.itemsOf, EV.keysD, EV.R.bindk, EV.R.bind_exc, EV.R.toS_ok, EV.R.toS_exc, EV.R.ofO_some, EV.isB_ok, EV.isB_exc, EV.SR.seq_nx, EV.SR.seq_rt, EV.SR.seq_exc, EV.SR.seq_bk, EV.SR.seq_ct, EV.SR.fin_nx, EV.SR.fin_rt, EV.SR.fin_exc, EV.E.frz, EV.E.rd, EV.prim, EV.blD, EV.isND, EV.isL, EV.kFin, EV.kCv_fn, EV.kLk_some, EV.kE, EV.kV, EV.kPr, EV.kNot, EV.kBl, EV.kAnd, EV.kOr, EV.kCh3, EV.kCh2, EV.kCh1, EV.kIte, EV.kC3, EV.kC2, EV.kC1, EV.kL3, EV.kL2, EV.kL1, EV.kLb, EV.kLc, EV.kLa, EV.kM2, EV.kM1, EV.kM0, EV.kMt, EV.kLa2, EV.kPa, EV.kAs, EV.kAy, EV.kAx, EV.kS3, EV.kSx, EV.kSr, EV.kSe, EV.kSen, EV.zipD, EV.kSz, EV.kAsg, EV.kUnp, EV.kPar, EV.kSj, EV.kSi, EV.kApp, EV.kEx, EV.kSIte, EV.kFor, EV.kRet, EV.kD, EV.pAdd, EV.pSub, EV.pMul, EV.pFdiv, EV.pMod, EV.pPow, EV.pNeg, EV.pEq, EV.pNe, EV.pLt, EV.pLe, EV.pGt, EV.pGe, EV.pIsin, EV.pNotin, EV.pIsnone, EV.pNotnone, EV.pIsb, EV.pIsnotb, EV.pIx, EV.pSlc, EV.pRev, EV.pLen, EV.pAbs, EV.pInt, EV.pList, EV.pTuple, EV.pSum, EV.pMax2, EV.pMin2, EV.pMaxL, EV.pMinL, EV.pMinT, EV.pAny, EV.pAll, EV.pSorted, EV.pGcd, EV.pDictK, EV.pIsinst, EV.pLrange, EV.pTrange, EV.pTup, EV.pLst, EV.pNewK, EV.pNewT, EV.inst, EV.setE, EV.scalD, EV.scEq, Option.bind_some, Option.bind_none, Option.map_some, Option.map_none, Option.isSome_some, Option.isSome_none, if_true, if_false, Bool.false_eq_true, Bool.not_true, Bool.not_false, Bool.true_and, Bool.false_and, Bool.and_true, Bool.and_false, Bool.true_or, Bool.false_or, Bool.or_true, Bool.or_false, decide_true, decide_false, not_true, not_false_eq_true, eq_self, and_true, true_and, and_false, false_and, and_self, or_true, true_or, or_false, false_or, List.length_cons, List.length_nil, List.cons_append, List.nil_append, List.length_map, List.map_cons, List.map_nil, List.replicate_succ, List.replicate_zero, List.append_nil, List.contains_cons, List.contains_nil, Nat.reduceBEq, Nat.reduceAdd, Nat.reduceSub, Nat.reduceMul, Nat.reduceLT, Nat.reduceLeDiff, Nat.reduceEqDiff, Nat.reduceBNe, Int.reduceAdd, Int.reduceSub, Int.reduceMul, Int.reduceNeg, Int.reduceLT, Int.reduceLE, Int.reduceEq, Int.reduceBEq, Int.reduceToNat, Int.reduceGT, Int.reduceGE, EV.few0, EV.few1, EV.few2, EV.few3, EV.few4, EV.few5, EV.few6, EV.few7, EV.few8, EV.few9, EV.few10, EV.few11, EV.few12, EV.few13, EV.few14, EV.few15, EV.few16, EV.few17, EV.few18, EV.few19, EV.few20, EV.few21, EV.few22, EV.few23, EV.few24, EV.eqD_nil, EV.eqD_nilL, EV.eqD_str, EV.eqD_int, EV.eqD_bl, Int.natCast_add, Int.natCast_zero, Int.natCast_one, Int.cast_ofNat_Int, List.foldl_cons, List.foldl_nil, List.zip_cons_cons, List.zip_nil_left, List.zip_nil_right, reduceIte, reduceCtorEq, beq_self_eq_true, Nat.zero_add, Int.zero_add, EV.wrapF_nil, EV.ofKey, $ls,*])
local macro_rules | `(tactic| simp_all? only [$ls,*]) => `(tactic| simp -implicitDefEqProofs only [EV.mk_c1, EV.mk_c2, EV.mk_hnd, EV.mk_deep, EV.evD_mk, EV.entE, EV.outE, EV.evSs_nil, EV.evSs_cons, EV.eS_asg, EV.eS_unp, EV.eS_par, EV.eS_setix, EV.eS_app, EV.eS_expr, EV.eS_ite, EV.evS_for, EV.evS_forG, EV.evS_whl, EV.eS_ret, EV.evS.eq_15, EV.evS.eq_16, EV.evS.eq_17, EV.evS.eq_18, EV.evS.eq_19, EV.evX.eq_1, EV.evX.eq_2, EV.evX.eq_3, EV.evX.eq_4, EV.evX.eq_5, EV.eX_pr, EV.eX_not, EV.eX_and, EV.eX_or, EV.eX_chn, EV.eX_ite, EV.eX_call, EV.eX_callv, EV.evX_lc, EV.evX_lc2, EV.evX.eq_16, EV.eX_popAt, EV.eA_nil, EV.eA_slt, EV.eA_x, EV.eR_slt, EV.eR_x, EV.eR_rng, EV.eR_enS, EV.eR_en, EV.eR_zip, EV.fillD, EV.fillE, EV.look, EV.put, EV.wipes, EV.restore, EV.back, EV.slots, EV.wrapF_nx, EV.wrapF_rt, EV.wrapF_exc, EV.bindT, EV.bindNs, EV.itemsOf, EV.keysD, EV.R.bindk, EV.R.bind_exc, EV.R.toS_ok, EV.R.toS_exc, EV.R.ofO_some, EV.isB_ok, EV.isB_exc, EV.SR.seq_nx, EV.SR.seq_rt, EV.SR.seq_exc, EV.SR.seq_bk, EV.SR.seq_ct, EV.SR.fin_nx, EV.SR.fin_rt, EV.SR.fin_exc, EV.E.frz, EV.E.rd, EV.prim, EV.blD, EV.isND, EV.isL, EV.kFin, EV.kCv_fn, EV.kLk_some, EV.kE, EV.kV, EV.kPr, EV.kNot, EV.kBl, EV.kAnd, EV.kOr, EV.kCh3, EV.kCh2, EV.kCh1, EV.kIte, EV.kC3, EV.kC2, EV.kC1, EV.kL3, EV.kL2, EV.kL1, EV.kLb, EV.kLc, EV.kLa, EV.kM2, EV.kM1, EV.kM0, EV.kMt, EV.kLa2, EV.kPa, EV.kAs, EV.kAy, EV.kAx, EV.kS3, EV.kSx, EV.kSr, EV.kSe, EV.kSen, EV.zipD, EV.kSz, EV.kAsg, EV.kUnp, EV.kPar, EV.kSj, EV.kSi, EV.kApp, EV.kEx, EV.kSIte, EV.kFor, EV.kRet, EV.kD, Option.bind_some, Option.bind_none, Option.map_some, Option.map_none, Option.isSome_some, Option.isSome_none, if_true, if_false, Bool.false_eq_true, Bool.not_true, Bool.not_false, Bool.true_and, Bool.false_and, Bool.and_true, Bool.and_false, Bool.true_or, Bool.false_or, Bool.or_true, Bool.or_false, decide_true, decide_false, not_true, not_false_eq_true, eq_self, and_true, true_and, and_false, false_and, and_self, or_true, true_or, or_false, false_or, List.length_cons, List.length_nil, List.cons_append, List.nil_append, List.length_map, List.map_cons, List.map_nil, List.replicate_succ, List.replicate_zero, List.append_nil, List.contains_cons, List.contains_nil, Nat.reduceBEq, Nat.reduceAdd, Nat.reduceSub, Nat.reduceMul, Nat.reduceLT, Nat.reduceLeDiff, Nat.reduceEqDiff, Nat.reduceBNe, Int.reduceAdd, Int.reduceSub, Int.reduceMul, Int.reduceNeg, Int.reduceLT, Int.reduceLE, Int.reduceEq, Int.reduceBEq, Int.reduceToNat, Int.reduceGT, Int.reduceGE, EV.few0, EV.few1, EV.few2, EV.few3, EV.few4, EV.few5, EV.few6, EV.few7, EV.few8, EV.few9, EV.few10, EV.few11, EV.few12, EV.few13, EV.few14, EV.few15, EV.few16, EV.few17, EV.few18, EV.few19, EV.few20, EV.few21, EV.few22, EV.few23, EV.few24, EV.eqD_nil, EV.eqD_nilL, EV.eqD_str, EV.eqD_int, EV.eqD_bl, Int.natCast_add, Int.natCast_zero, Int.natCast_one, Int.cast_ofNat_Int, List.foldl_cons, List.foldl_nil, List.zip_cons_cons, List.zip_nil_left, List.zip_nil_right, reduceIte, reduceCtorEq, beq_self_eq_true, Nat.zero_add, Int.zero_add, EV.wrapF_nil, EV.ofKey, $ls,*])
section
set_option linter.all false
set_option maxRecDepth 100000
/-! EvU: lemmas that all laws share, with no program in sight. -/
namespace EU
open PySem EV
open L2 (Key)
set_option autoImplicit false
theorem few_leU {n : Nat} (h : n ≤ 1000000) : few n = true := decide_eq_true h
def rngA (lo : Int) : Nat → List Int
  | 0 => []
  | n + 1 => lo :: rngA (lo + 1) n

def idx (n : Nat) : List Int := rngA 0 n

theorem mem_rngA (n : Nat) : ∀ (lo a : Int), a ∈ rngA lo n ↔ lo ≤ a ∧ a < lo + n := by
  induction n with
  | zero => intro lo a; simp [rngA]
  | succ n ih => intro lo a; simp only [rngA, List.mem_cons, ih]; omega

theorem mem_idx (n : Nat) (a : Int) : a ∈ idx n ↔ 0 ≤ a ∧ a < n := by
  unfold idx; rw [mem_rngA]; omega

theorem rngA_len (n : Nat) : ∀ lo, (rngA lo n).length = n := by
  induction n with
  | zero => intro lo; rfl
  | succ n ih => intro lo; simp [rngA, ih]

theorem rngA_asc (n : Nat) : ∀ lo, (rngA lo n).Pairwise (· < ·) := by
  induction n with
  | zero => intro lo; simp [rngA]
  | succ n ih =>
    intro lo
    simp only [rngA, List.pairwise_cons]
    refine ⟨fun x hx => ?_, ih _⟩
    have := (mem_rngA n (lo+1) x).1 hx
    omega

theorem map_congr {f g : Int → Int} : ∀ {l : List Int}, (∀ x ∈ l, f x = g x) → l.map f = l.map g := by
  intro l
  induction l with
  | nil => intro _; rfl
  | cons a r ih => intro h; rw [List.map_cons, List.map_cons, h a (by simp), ih fun x hx => h x (List.mem_cons_of_mem _ hx)]

theorem rangeL_rng (n : Nat) : ∀ lo, rangeL lo n = (rngA lo n).map .int := by
  induction n with
  | zero => intro lo; rfl
  | succ n ih => intro lo; simp [rangeL, rngA, ih]

theorem small_nat {n : Nat} (h : n ≤ 1000000) : small (n : Int) = true := by unfold small; exact decide_eq_true (by omega)

theorem small_of {a : Int} (h0 : -1000000 ≤ a) (h1 : a ≤ 1000000) : small a = true := by unfold small; exact decide_eq_true (by omega)

theorem rngA_get (n : Nat) : ∀ (lo : Int) (i : Nat), i < n → (rngA lo n)[i]? = some (lo + i) := by
  induction n with
  | zero => intro lo i h; omega
  | succ n ih =>
    intro lo i h
    cases i with
    | zero => simp [rngA]
    | succ i => simp only [rngA, List.getElem?_cons_succ]; rw [ih (lo + 1) i (by omega)]; congr 1; omega

theorem rngA_snoc (n : Nat) : ∀ lo, rngA lo (n + 1) = rngA lo n ++ [lo + n] := by
  induction n with
  | zero => intro lo; simp [rngA]
  | succ n ih =>
    intro lo
    rw [show rngA lo (n + 1 + 1) = lo :: rngA (lo + 1) (n + 1) from rfl, ih]
    rw [show rngA lo (n + 1) = lo :: rngA (lo + 1) n from rfl, List.cons_append]
    congr 2
    congr 1
    omega

theorem idx_snoc (n : Nat) : idx (n + 1) = idx n ++ [(n : Int)] := by
  unfold idx
  rw [rngA_snoc]; simp

/-- [f(i, x) for i, x in enumerate(xs)] -/
def enumI (lo : Int) : List Int → List D
  | [] => []
  | a :: r => .tup [.int lo, .int a] :: enumI (lo + 1) r

theorem enumL_int (L : List Int) : ∀ (k : Nat), enumL k (L.map .int) = enumI k L := by
  induction L with
  | nil => intro k; rfl
  | cons a r ih => intro k; simp only [List.map_cons, enumL, enumI, ih]; rfl

theorem enumI_mem {x : D} : ∀ {L : List Int} {lo : Int}, x ∈ enumI lo L → ∃ i v, x = .tup [.int i, .int v] ∧ lo ≤ i ∧ i < lo + L.length ∧ v = L.getD (i - lo).toNat 0 := by
  intro L
  induction L with
  | nil => intro lo h; simp [enumI] at h
  | cons a r ih =>
    intro lo h
    rcases List.mem_cons.1 h with e | e
    · exact ⟨lo, a, e, by omega, by simp; omega, by simp⟩
    · obtain ⟨i, v, e1, e2, e3, e4⟩ := ih e
      refine ⟨i, v, e1, by omega, by simp; omega, ?_⟩
      have : (i - lo).toNat = (i - (lo + 1)).toNat + 1 := by omega
      rw [this, e4]; rfl

theorem lcL_bools {f : D → EV.Env → R (Option D × EV.Env)} {ρ : EV.Env} (g : D → Bool) {xs : List D} (h : ∀ x ∈ xs, f x ρ = .ok (some (.bl (g x)), ρ)) : lcL f xs ρ = .ok ((xs.map g).map .bl, ρ) := by
  induction xs with
  | nil => rfl
  | cons a r ih =>
    simp only [lcL, h a (by simp), ih (fun x hx => h x (List.mem_cons_of_mem _ hx)), List.map_cons]
    rfl

theorem all_map (g : D → Bool) (xs : List D) : (xs.map g).all id = xs.all g := by
  induction xs with
  | nil => rfl
  | cons a r ih => simp

theorem lcL_mapI {f : D → EV.Env → R (Option D × EV.Env)} {ρ : EV.Env} (g : Int → Int) : ∀ {L : List Int}, (∀ z ∈ L, f (.int z) ρ = .ok (some (.int (g z)), ρ)) → lcL f (L.map .int) ρ = .ok ((L.map g).map .int, ρ) := by
  intro L
  induction L with
  | nil => intro _; rfl
  | cons a r ih =>
    intro h
    simp only [List.map_cons, lcL, h a (by simp), ih (fun x hx => h x (List.mem_cons_of_mem _ hx))]
    rfl

def dwn : Nat → List Int
  | 0 => []
  | m + 1 => (m : Int) :: dwn m

theorem dwn_eq (m : Nat) : ((List.range m).map fun (k : Nat) => D.int (((m : Int) - 1) - (k : Nat))) = (dwn m).map .int := by
  induction m with
  | zero => rfl
  | succ m ih =>
    rw [List.range_succ_eq_map, List.map_cons, List.map_map]
    simp only [dwn, List.map_cons, ← ih]
    congr 1
    · congr 1; omega
    · apply List.map_congr_left
      intro k _
      simp only [Function.comp]
      congr 1; omega

theorem rng_dwn {m : Nat} (hm : m ≤ 20) : rngL 3 [.int ((m : Int) - 1), .int (-1), .int (-1)] = some ((dwn m).map .int) := by
  have s1 : small ((m : Int) - 1) = true := by unfold small; exact decide_eq_true (by omega)
  have s2 : small (-1) = true := by decide +kernel
  have e : ((m : Int) - 1 - -1).toNat = m := by omega
  simp -implicitDefEqProofs only [rngL, s1, s2, e, dwn_eq, few_leU (n := m) (by omega), Bool.and_self, decide_true, if_true]

theorem flat_zeros (m : Nat) : (List.replicate m [D.int 0]).flatten = (List.replicate m (0 : Int)).map .int := by
  induction m with
  | zero => rfl
  | succ m ih => rw [List.replicate_succ, List.flatten_cons, ih, List.replicate_succ]; rfl

theorem mul_zeros {m : Nat} (hm : m ≤ 1000000) : pMul [.lst [.int 0], .int (m : Int)] = some (.l ((List.replicate m (0 : Int)).map .int)) := by
  have hf : few (1 * m) = true := few_leU (by omega)
  have hs := small_nat hm
  have ht : ((m : Nat) : Int).toNat = m := by omega
  simp -implicitDefEqProofs only [pMul, hs, List.length_cons, List.length_nil, Nat.zero_add, ht, hf, Bool.and_self, if_true, flat_zeros]

theorem kGet_app {κ : Type} [DecidableEq κ] (kvs : List (κ × D)) (k j : κ) (v : D) : kGet (kvs ++ [(k, v)]) j = match kGet kvs j with | some x => some x | none => if k = j then some v else none := by
  induction kvs with
  | nil => simp [kGet]
  | cons a r ih =>
    obtain ⟨i, w⟩ := a
    simp only [List.cons_append, kGet]
    by_cases h : i = j
    · simp [h]
    · simp only [if_neg h, ih]

theorem kPut_new {κ : Type} [DecidableEq κ] {kvs : List (κ × D)} {k : κ} {v : D} (h : kGet kvs k = none) : kPut kvs k v = kvs ++ [(k, v)] := by
  unfold kPut; rw [h]; rfl

theorem lcL_filtm {f : D → EV.Env → R (Option D × EV.Env)} {ρ : EV.Env} (g : Int → Bool) : ∀ {L : List Int}, (∀ z ∈ L, f (.int z) ρ = .ok (if g z then some (.int z) else none, ρ)) → lcL f (L.map .int) ρ = .ok ((L.filter g).map .int, ρ) := by
  intro L
  induction L with
  | nil => intro _; rfl
  | cons a r ih =>
    intro h
    simp only [List.map_cons, lcL, h a (by simp), ih (fun x hx => h x (List.mem_cons_of_mem _ hx)), List.filter_cons]
    cases g a <;> rfl

theorem lcL_fm {f : D → EV.Env → R (Option D × EV.Env)} {ρ : EV.Env} (g : Int → Bool) (q : Int → Int) : ∀ {L : List Int}, (∀ z ∈ L, f (.int z) ρ = .ok (if g z then some (.int (q z)) else none, ρ)) → lcL f (L.map .int) ρ = .ok (((L.filter g).map q).map .int, ρ) := by
  intro L
  induction L with
  | nil => intro _; rfl
  | cons a r ih =>
    intro h
    simp only [List.map_cons, lcL, h a (by simp), ih (fun x hx => h x (List.mem_cons_of_mem _ hx)), List.filter_cons]
    cases g a <;> rfl

/-- a drawn number for each -/
theorem lcL_roll {α : Type} {f : D → EV.Env → R (Option D × EV.Env)} (enc : α → D) (I : EV.Env → Prop) (Q : α → Int → Prop) : ∀ {L : List α} {ρ : EV.Env}, (∀ z ∈ L, ∀ ρ, I ρ → ∃ v ρ', f (enc z) ρ = .ok (some (.int v), ρ') ∧ I ρ' ∧ Q z v) → I ρ → ∃ (M : List Int) (ρ' : EV.Env), lcL f (L.map enc) ρ = .ok (M.map .int, ρ') ∧ I ρ' ∧ M.length = L.length ∧ ∀ (i : Nat) (hi : i < L.length), Q L[i] (M.getD i 0) := by
  intro L
  induction L with
  | nil => intro ρ _ hi; exact ⟨[], ρ, rfl, hi, rfl, fun i hi => absurd hi (by simp)⟩
  | cons a r ih =>
    intro ρ h hi
    obtain ⟨v, ρ1, e1, h1, q1⟩ := h a (by simp) ρ hi
    obtain ⟨M, ρ2, e2, h2, hl, hq⟩ := ih (fun z hz => h z (List.mem_cons_of_mem _ hz)) h1
    refine ⟨v :: M, ρ2, ?_, h2, by simp [hl], ?_⟩
    · simp only [List.map_cons, lcL, e1, e2]; rfl
    · intro i hi
      cases i with
      | zero => exact q1
      | succ i => exact hq i (by simpa using hi)

theorem zipL_int : ∀ (A B : List Int), zipL (A.map .int) (B.map .int) = (A.zip B).map fun p => D.tup [.int p.1, .int p.2] := by
  intro A
  induction A with
  | nil => intro B; rfl
  | cons a r ih =>
    intro B
    cases B with
    | nil => rfl
    | cons b s => simp [zipL, ih]

theorem rng2_map {a b : Int} (ha : small a = true) (hb : small b = true) (hf : (b - a).toNat ≤ 1000000) : rngL 2 [.int a, .int b] = some ((rngA a (b - a).toNat).map .int) := by
  simp -implicitDefEqProofs only [rngL, ha, hb, few_leU hf, Bool.and_self, if_true, rangeL_rng]

theorem rng1_map {b : Int} (hb : small b = true) (hf : b.toNat ≤ 1000000) : rngL 1 [.int b] = some ((rngA 0 b.toNat).map .int) := by
  simp -implicitDefEqProofs only [rngL, hb, few_leU hf, Bool.and_self, if_true, rangeL_rng]

theorem forL_test {f : D → EV.Env → SR} (I : EV.Env → Prop) (g : D → Bool) : ∀ {xs : List D} {ρ : EV.Env}, (∀ x ∈ xs, g x = true → ∀ ρ, I ρ → ∃ ρ', f x ρ = .nx ρ' ∧ I ρ') → (∀ x ∈ xs, g x = false → ∀ ρ, I ρ → ∃ ρ', f x ρ = .rt (.d (.bl false)) ρ' ∧ I ρ') → I ρ →
    (xs.all g = true ∧ ∃ ρ', forL f xs ρ = .nx ρ' ∧ I ρ') ∨ (xs.all g = false ∧ ∃ ρ', forL f xs ρ = .rt (.d (.bl false)) ρ' ∧ I ρ') := by
  intro xs
  induction xs with
  | nil => intro ρ _ _ hi; exact .inl ⟨rfl, ρ, rfl, hi⟩
  | cons x r ih =>
    intro ρ h1 h2 hi
    cases hg : g x with
    | true =>
      obtain ⟨ρ1, e1, i1⟩ := h1 x (by simp) hg ρ hi
      rw [forL_nx e1]
      simp only [List.all_cons, hg, Bool.true_and]
      exact ih (fun y hy => h1 y (List.mem_cons_of_mem _ hy)) (fun y hy => h2 y (List.mem_cons_of_mem _ hy)) i1
    | false =>
      obtain ⟨ρ1, e1, i1⟩ := h2 x (by simp) hg ρ hi
      refine .inr ⟨by simp [hg], ρ1, forL_rt e1, i1⟩

theorem sum_leI {f g : Int → Int} {L : List Int} (h : ∀ c ∈ L, f c ≤ g c) : (L.map f).sum ≤ (L.map g).sum := by
  induction L with
  | nil => simp
  | cons a r ih =>
    have h1 := h a (by simp)
    have h2 := ih fun c hc => h c (List.mem_cons_of_mem _ hc)
    simp only [List.map_cons, List.sum_cons]
    omega

theorem sum_nonneg {f : Int → Int} : ∀ {l : List Int}, (∀ x ∈ l, 0 ≤ f x) → 0 ≤ (l.map f).sum := by
  intro l
  induction l with
  | nil => intro _; simp
  | cons a r ih =>
    intro h
    have h1 := h a (by simp)
    have h2 := ih fun x hx => h x (List.mem_cons_of_mem _ hx)
    simp
    omega

theorem perm_sumI {L M : List Int} (h : L.Perm M) : L.sum = M.sum := by
  induction h with
  | nil => rfl
  | cons a _ ih => simp only [List.sum_cons, ih]
  | swap a b l => simp only [List.sum_cons]; omega
  | trans _ _ h1 h2 => exact h1.trans h2

theorem putI_perm (a : Int) : ∀ xs : List Int, (insI a xs).Perm (a :: xs) := by
  intro xs
  induction xs with
  | nil => exact .refl _
  | cons b r ih =>
    unfold insI
    split
    · exact .refl _
    · exact (ih.cons b).trans (.swap a b r)

theorem putI_srt (a : Int) : ∀ xs : List Int, xs.Pairwise (· ≤ ·) → (insI a xs).Pairwise (· ≤ ·) := by
  intro xs
  induction xs with
  | nil => intro _; simp [insI]
  | cons b r ih =>
    intro h
    have h1 := List.pairwise_cons.1 h
    unfold insI
    split
    · refine List.pairwise_cons.2 ⟨fun y hy => ?_, h⟩
      rcases List.mem_cons.1 hy with z | z
      · omega
      · have := h1.1 y z; omega
    · refine List.pairwise_cons.2 ⟨fun y hy => ?_, ih h1.2⟩
      rcases List.mem_cons.1 ((putI_perm a r).mem_iff.1 hy) with z | z
      · omega
      · exact h1.1 y z

theorem ordI_perm : ∀ xs : List Int, (sortI xs).Perm xs := by
  intro xs
  induction xs with
  | nil => exact .refl _
  | cons a r ih => exact (putI_perm a _).trans (ih.cons a)

theorem ordI_srt : ∀ xs : List Int, (sortI xs).Pairwise (· ≤ ·) := by
  intro xs
  induction xs with
  | nil => exact List.Pairwise.nil
  | cons a r ih => exact putI_srt a _ ih

theorem sortI_asc {L : List Int} (h : L.Nodup) : (sortI L).Pairwise (· < ·) := by
  have h1 : (sortI L).Nodup := (ordI_perm L).nodup_iff.2 h
  have h2 := ordI_srt L
  exact (List.Pairwise.and h2 h1).imp fun hh => by have := hh.1; have := hh.2; omega

theorem minI_eq (lo : Int) : ∀ (L : List Int), lo ∈ L → (∀ x ∈ L, lo ≤ x) → minI L = some lo := by
  intro L
  induction L with
  | nil => intro h; simp at h
  | cons a r ih =>
    intro h hl
    cases r with
    | nil => simp at h; simp [minI, h]
    | cons b s =>
      have h1 := hl a (by simp)
      by_cases hr : lo ∈ b :: s
      · rw [minI.eq_3, ih hr (fun x hx => hl x (List.mem_cons_of_mem _ hx))]
        · simp; intro hlt; omega
        · simp
      · have ha : lo = a := by rcases List.mem_cons.1 h with e | e; exact e; exact absurd e hr
        subst ha
        obtain ⟨m, hm⟩ : ∃ m, minI (b :: s) = some m := by
          clear ih h hl h1 hr
          induction s generalizing b with
          | nil => exact ⟨b, rfl⟩
          | cons c t ih2 => obtain ⟨m, e⟩ := ih2 c; rw [minI.eq_3, e]; exact ⟨_, rfl⟩; simp
        have hmm : m ∈ b :: s := by
          clear ih h hl h1 hr
          induction s generalizing b m with
          | nil => injection hm with hm; simp [hm]
          | cons c t ih2 =>
            rw [minI.eq_3] at hm
            · obtain ⟨m2, e⟩ : ∃ m2, minI (c :: t) = some m2 := by
                cases hh : minI (c :: t) with
                | none => rw [hh] at hm; cases hm
                | some q => exact ⟨q, rfl⟩
              rw [e] at hm
              have := ih2 c m2 e
              simp only [Option.map_some, Option.some.injEq] at hm
              split at hm
              · subst hm; exact List.mem_cons_of_mem _ this
              · subst hm; simp
            · simp
        have h2 := hl m (List.mem_cons_of_mem _ hmm)
        rw [minI.eq_3, hm]
        · simp; intro hlt; omega
        · simp

theorem minI_cc (a b : Int) (s : List Int) : minI (a :: b :: s) = (minI (b :: s)).map fun m => if m < a then m else a := minI.eq_3 _ _ (by simp)

theorem maxI_cc (a b : Int) (s : List Int) : maxI (a :: b :: s) = (maxI (b :: s)).map fun m => if a < m then m else a := maxI.eq_3 _ _ (by simp)

theorem maxI_neg : ∀ (L : List Int), maxI L = (minI (L.map fun x => -x)).map fun x => -x := by
  intro L
  induction L with
  | nil => rfl
  | cons a r ih =>
    cases r with
    | nil => simp [maxI, minI]
    | cons b s =>
      rw [maxI_cc, ih]; simp only [List.map_cons]; rw [minI_cc (-a)]
      cases minI (-b :: s.map fun x => -x) with
      | none => rfl
      | some q =>
        simp only [Option.map_some, Option.some.injEq]
        by_cases h1 : a < -q
        · rw [if_pos h1, if_pos (by omega)]
        · rw [if_neg h1, if_neg (by omega)]; omega

theorem maxI_eq (hi : Int) (L : List Int) (h : hi ∈ L) (hl : ∀ x ∈ L, x ≤ hi) : maxI L = some hi := by
  rw [maxI_neg, minI_eq (-hi)]
  · simp
  · exact List.mem_map.2 ⟨hi, h, rfl⟩
  · intro x hx
    obtain ⟨y, hy, rfl⟩ := List.mem_map.1 hx
    have := hl y hy
    omega

theorem asc_len : ∀ (L : List Int) (lo hi : Int), L.Pairwise (· < ·) → (∀ x ∈ L, lo ≤ x ∧ x < hi) → L.length ≤ (hi - lo).toNat := by
  intro L
  induction L with
  | nil => intro lo hi _ _; simp
  | cons a r ih =>
    intro lo hi hp hr
    have hp2 := List.pairwise_cons.1 hp
    have h1 := hr a (by simp)
    have := ih (a + 1) hi hp2.2 fun x hx => by
      have := hp2.1 x hx
      have := hr x (List.mem_cons_of_mem _ hx)
      omega
    simp only [List.length_cons]
    omega

/-- ascending, as many as there is room for -/
theorem asc_all : ∀ (n : Nat) (L : List Int) (lo : Int), L.Pairwise (· < ·) → (∀ x ∈ L, lo ≤ x ∧ x < lo + n) → L.length = n → L = rngA lo n := by
  intro n
  induction n with
  | zero => intro L lo _ _ h; exact List.length_eq_zero_iff.1 h
  | succ n ih =>
    intro L lo hp hr hl
    cases L with
    | nil => simp at hl
    | cons a r =>
      have hp2 := List.pairwise_cons.1 hp
      have ha := hr a (by simp)
      have hlen := asc_len r (a + 1) (lo + (n + 1 : Nat)) hp2.2 fun x hx => by
        have := hp2.1 x hx
        have := hr x (List.mem_cons_of_mem _ hx)
        omega
      simp only [List.length_cons] at hl
      have : a = lo := by omega
      subst this
      rw [rngA, ih r (a + 1) hp2.2 (fun x hx => by
        have := hp2.1 x hx
        have := hr x (List.mem_cons_of_mem _ hx)
        omega) (by omega)]

theorem insU_len (a : Int) : ∀ L : List Int, (insU a L).length ≤ L.length + 1 := by
  intro L
  induction L with
  | nil => simp [insU]
  | cons b r ih => simp only [insU]; split <;> (try split) <;> simp <;> omega

theorem sortU_len : ∀ L : List Int, (sortU L).length ≤ L.length := by
  intro L
  induction L with
  | nil => simp [sortU]
  | cons b r ih => have := insU_len b (sortU r); simp only [sortU, List.length_cons]; omega

theorem cut_mem {xs : List D} {a b : Option Int} {x : D} (h : x ∈ cut xs a b) : x ∈ xs := List.mem_of_mem_drop (List.mem_of_mem_take h)

theorem cut_len (xs : List D) (a b : Option Int) : (cut xs a b).length ≤ xs.length := by
  unfold cut
  have := List.length_take_le (HT.sIx xs.length xs.length b - HT.sIx xs.length 0 a) (xs.drop (HT.sIx xs.length 0 a))
  rw [List.length_take, List.length_drop]
  omega

theorem cut01 (x : D) (xs : List D) : cut (x :: xs) none (some 1) = [x] := by
  have h1 : HT.sIx (xs.length + 1) 0 none = 0 := by simp [HT.sIx]
  have h2 : HT.sIx (xs.length + 1) (xs.length + 1) (some 1) = 1 := by simp [HT.sIx]
  simp [cut, h1, h2]

theorem cut_to (xs : List D) (i : Int) (h0 : 0 ≤ i) (h1 : i ≤ xs.length) : cut xs none (some i) = xs.take i.toNat := by
  have e1 : HT.sIx xs.length 0 none = 0 := rfl
  have e2 : HT.sIx xs.length xs.length (some i) = i.toNat := by
    show (if i < 0 then _ else _) = _
    rw [if_neg (by omega)]; omega
  unfold cut; rw [e1, e2]; simp

theorem cut_from (xs : List D) (i : Int) (h0 : 0 ≤ i) (h1 : i ≤ xs.length) : cut xs (some i) none = xs.drop i.toNat := by
  have e1 : HT.sIx xs.length xs.length none = xs.length := rfl
  have e2 : HT.sIx xs.length 0 (some i) = i.toNat := by
    show (if i < 0 then _ else _) = _
    rw [if_neg (by omega)]; omega
  unfold cut; rw [e1, e2, List.take_of_length_le]
  rw [List.length_drop]; omega

theorem cut_set (Z : List Int) (i : Int) (v : Int) (h0 : 0 ≤ i) (h1 : i < Z.length) : cut (Z.map D.int) none (some i) ++ D.int v :: cut (Z.map D.int) (some (i + 1)) none = (Z.set i.toNat v).map .int := by
  rw [cut_to _ _ h0 (by rw [List.length_map]; omega), cut_from _ _ (by omega) (by rw [List.length_map]; omega), List.set_eq_take_append_cons_drop, if_pos (by omega), List.map_append, List.map_cons, List.map_take, List.map_drop]
  rw [show (i + 1).toNat = i.toNat + 1 by omega]

def repD (k : Nat) (x : D) : List D := List.replicate k x

theorem repD_len (k : Nat) (x : D) : (repD k x).length = k := List.length_replicate

/-- what is handed back, and the first slot -/
def retOf : SR → Option (E × Option E)
  | .rt e (c :: _) => some (e, c)
  | _ => none

theorem retOf_rt {r : SR} {e : E} {c : Option E} (h : retOf r = some (e, c)) : ∃ ρ, r = .rt e (c :: ρ) := by
  unfold retOf at h
  split at h
  · injection h with h
    injection h with h1 h2
    subst h1 h2
    exact ⟨_, rfl⟩
  · cases h

def nxOf : SR → Option (Option E × Option E)
  | .nx (a :: b :: _) => some (a, b)
  | _ => none

theorem nxOf_nx {r : SR} {a b : Option E} (h : nxOf r = some (a, b)) : ∃ ρ, r = .nx (a :: b :: ρ) := by
  unfold nxOf at h
  split at h
  · injection h with h
    injection h with h1 h2
    subst h1 h2
    exact ⟨_, rfl⟩
  · cases h

def tk : Nat → Ss → Ss
  | 0, _ => .nil
  | n + 1, .cons s r => .cons s (tk n r)
  | _ + 1, .nil => .nil

theorem evSs_tk (c : Calls) : ∀ (k : Nat) (s : Ss) (ρ : EV.Env), evSs c s ρ = (evSs c (tk k s) ρ).seq (evSs c (drp k s)) := by
  intro k
  induction k with
  | zero => intro s ρ; cases s <;> (simp only [tk, drp, evSs_nil]; rfl)
  | succ k ih =>
    intro s ρ
    cases s with
    | nil => simp only [tk, drp, evSs_nil]; rw [SR.seq_nx, evSs_nil]
    | cons a r =>
      simp only [tk, drp, evSs_cons]
      cases evS c a ρ with
      | nx ρ' => simp only [SR.seq_nx]; exact ih r ρ'
      | _ => rfl

theorem zeros_get (n i : Nat) : (List.replicate n (0 : Int)).getD i 0 = 0 := by
  rw [List.getD_eq_getElem?_getD, List.getElem?_replicate]; split <;> rfl

/-- flat values -/
inductive Fl : D → Prop where
  | non : Fl .non
  | bl (b : Bool) : Fl (.bl b)
  | int (i : Int) : Fl (.int i)
  | str (s : Str) (h : PyData.canLay0 (.str s) = true) : Fl (.str s)
end EU
end
section
set_option linter.all false
set_option maxRecDepth 100000
/-! EvQ: fractions in lowest terms as pairs. -/
namespace EU
open PySem EV
open L2 (Key)
set_option autoImplicit false
def qD (q : Rat) : D := .tup [.int q.num, .int (q.den : Int)]
def lowP (t b : Int) : Rat := (t : Rat) / (b : Rat)
theorem low_num (t : Int) {b : Int} (hb : 0 < b) : t / ((Nat.gcd t.natAbs b.natAbs : Nat) : Int) = (lowP t b).num := by
  unfold lowP
  rw [← Rat.divInt_eq_div, Rat.num_divInt, Int.sign_eq_one_of_pos hb, Int.one_mul, Int.gcd_comm]
  rfl
theorem low_den (t : Int) {b : Int} (hb : 0 < b) : b / ((Nat.gcd t.natAbs b.natAbs : Nat) : Int) = ((lowP t b).den : Int) := by
  unfold lowP
  rw [← Rat.divInt_eq_div, Rat.den_divInt, if_neg (by omega), Int.gcd_comm, Int.natCast_ediv]
  rw [show ((b.natAbs : Nat) : Int) = b by omega]
  rfl
theorem add_low (q r : Rat) : lowP (q.num * r.den + r.num * q.den) (q.den * r.den) = q + r := by
  unfold lowP
  rw [Rat.add_def', Rat.mkRat_eq_div]
  push_cast
  rfl
theorem mul_low (q r : Rat) : lowP (q.num * r.num) (q.den * r.den) = q * r := by
  unfold lowP
  rw [Rat.mul_def', Rat.mkRat_eq_div]
  push_cast
  rfl
theorem den_pos (q : Rat) : (0 : Int) < (q.den : Int) := by have := q.den_pos; omega
theorem gcd_pos (t : Int) {b : Int} (hb : 0 < b) : (0 : Int) < ((Nat.gcd t.natAbs b.natAbs : Nat) : Int) := by
  have : 0 < Nat.gcd t.natAbs b.natAbs := Nat.gcd_pos_of_pos_right _ (by omega)
  omega
theorem gcd_le (t : Int) {b : Int} (hb : 0 < b) : ((Nat.gcd t.natAbs b.natAbs : Nat) : Int) ≤ b := by
  have := Nat.le_of_dvd (by omega : 0 < b.natAbs) (Nat.gcd_dvd_right t.natAbs b.natAbs)
  omega
theorem emod_natAbs {a c : Int} (ha : 0 ≤ a) (hc : 0 ≤ c) : (a % c).natAbs = a.natAbs % c.natAbs := by
  obtain ⟨x, rfl⟩ := Int.eq_ofNat_of_zero_le ha
  obtain ⟨y, rfl⟩ := Int.eq_ofNat_of_zero_le hc
  rfl
/-- not too long -/
def Sm (q : Rat) : Prop := q.num.natAbs < 2 ^ 250 ∧ q.den < 2 ^ 250
theorem Sm.db {q : Rat} (h : Sm q) : ((q.den : Int)).natAbs < 2 ^ 250 := by rw [Int.natAbs_natCast]; exact h.2
theorem bits_of {i : Int} {n m : Nat} (h : i.natAbs < 2 ^ n) (hm : n ≤ m) : bits i m = true := by
  unfold bits
  exact decide_eq_true (Nat.lt_of_lt_of_le h (Nat.pow_le_pow_right (by omega) hm))
theorem mulOk_of {a b : Int} {n m : Nat} (ha : a.natAbs < 2 ^ n) (hb : b.natAbs < 2 ^ m) (hn : n ≤ 8000) (hm : m ≤ 8000) : mulOk a b = true := by
  unfold mulOk
  rw [bits_of ha hn, bits_of hb hm]
  simp
theorem mul_lt {a b : Int} {n m : Nat} (ha : a.natAbs < 2 ^ n) (hb : b.natAbs < 2 ^ m) : (a * b).natAbs < 2 ^ (n + m) := by
  rw [Int.natAbs_mul, Nat.pow_add]
  exact Nat.mul_lt_mul'' ha hb
theorem add_lt {a b : Int} {n : Nat} (ha : a.natAbs < 2 ^ n) (hb : b.natAbs < 2 ^ n) : (a + b).natAbs < 2 ^ (n + 1) := by
  rw [Nat.pow_succ]
  omega
theorem Sm.top {q r : Rat} (hq : Sm q) (hr : Sm r) : (q.num * (r.den : Int) + r.num * (q.den : Int)).natAbs < 2 ^ 501 := by
  have h1 := mul_lt (a := q.num) (b := (r.den : Int)) hq.1 hr.db
  have h2 := mul_lt (a := r.num) (b := (q.den : Int)) hr.1 hq.db
  exact add_lt h1 h2
theorem Sm.bot {q r : Rat} (hq : Sm q) (hr : Sm r) : ((q.den : Int) * (r.den : Int)).natAbs < 2 ^ 500 := mul_lt (a := (q.den : Int)) (b := (r.den : Int)) hq.db hr.db
/-- a multiple of 1 / lcm(1 .. 30), not too far from 0 -/
def Gq (q : Rat) : Prop := -1000000000 ≤ q ∧ q ≤ 1000000000 ∧ ∃ z : Int, q * 2329089562800 = z
theorem den_dvd {q : Rat} {L : Nat} {z : Int} (h : q * (L : Rat) = (z : Rat)) : q.den ∣ L := by
  have h1 : q = mkRat q.num q.den := (Rat.mkRat_self q).symm
  have h2 : (q.num : Rat) * L = z * q.den := by
    have h3 : q * (q.den : Rat) = q.num := by
      have h4 : q = (q.num : Rat) / (q.den : Rat) := by rw [← Rat.mkRat_eq_div, Rat.mkRat_self]
      have h5 : (q.den : Rat) ≠ 0 := by
        have := q.den_pos
        intro e
        have e2 : ((q.den : Nat) : Rat) = ((0 : Nat) : Rat) := e
        have : q.den = 0 := by simpa using e2
        omega
      have h6 := Rat.div_mul_cancel (a := (q.num : Rat)) h5
      rw [← h4] at h6
      exact h6
    rw [← h3, ← h]
    grind
  have h3 : q.num * (L : Int) = z * (q.den : Int) := by
    have : ((q.num * (L : Int) : Int) : Rat) = ((z * (q.den : Int) : Int) : Rat) := by push_cast; exact h2
    exact Rat.intCast_inj.1 this
  have h4 : (q.den : Int) ∣ q.num * (L : Int) := ⟨z, by rw [h3, Int.mul_comm]⟩
  have h5 : q.den ∣ q.num.natAbs * L := by
    have := Int.natAbs_dvd_natAbs.2 h4
    rwa [Int.natAbs_mul, Int.natAbs_natCast, Int.natAbs_natCast] at this
  exact (Nat.Coprime.symm q.reduced).dvd_of_dvd_mul_left h5
theorem Gq.den {q : Rat} (h : Gq q) : q.den ≤ 2329089562800 := by
  obtain ⟨_, _, z, hz⟩ := h
  exact Nat.le_of_dvd (by omega) (den_dvd (L := 2329089562800) (z := z) (by exact_mod_cast hz))
theorem Gq.num {q : Rat} (h : Gq q) : q.num.natAbs ≤ 1000000000 * 2329089562800 := by
  have hd := h.den
  obtain ⟨h1, h2, _⟩ := h
  rw [Rat.le_iff] at h1 h2
  have e1 : (-1000000000 : Rat).num = -1000000000 := rfl
  have e2 : (-1000000000 : Rat).den = 1 := rfl
  have e3 : (1000000000 : Rat).num = 1000000000 := rfl
  have e4 : (1000000000 : Rat).den = 1 := rfl
  rw [e1, e2] at h1
  rw [e3, e4] at h2
  omega
theorem Gq.sm {q : Rat} (h : Gq q) : Sm q := by
  have h1 := h.den
  have h2 := h.num
  have h3 : 1000000000 * 2329089562800 < 2 ^ 250 := by decide
  have h4 : 2329089562800 < 2 ^ 250 := by decide
  exact ⟨by omega, by omega⟩
theorem qD_inj {q r : Rat} (h : qD q = qD r) : q = r := by
  unfold qD at h
  injection h with h
  injection h with h1 h2
  injection h2 with h2 _
  injection h1 with h1
  injection h2 with h2
  exact Rat.ext h1 (by omega)
theorem eqD_q (q r : Rat) : eqD (qD q) (qD r) = some (decide (q = r)) := by
  have := eqD_tI [q.num, (q.den : Int)] [r.num, (r.den : Int)]
  simp only [List.map_cons, List.map_nil] at this
  unfold qD
  rw [this]
  congr 1
  rw [decide_eq_decide]
  constructor
  · intro h
    injection h with h1 h2
    injection h2 with h2 _
    exact Rat.ext h1 (by omega)
  · intro h; rw [h]
theorem py_q (q : Rat) : (qD q).py = some (.tuple [.int q.num, .int (q.den : Int)]) := by
  simp [qD, D.py, pyL]
theorem pyL_q (L : List Rat) : pyL (L.map qD) = some (L.map fun q => .tuple [.int q.num, .int (q.den : Int)]) := by
  induction L with
  | nil => rfl
  | cons a r ih => simp [pyL, py_q, ih]
theorem inD_q (q : Rat) (L : List Rat) : inD (qD q) (L.map qD) = some (decide (q ∈ L)) := by
  have hl : PyData.canLayAll0 (L.map fun q => PyData.tuple [.int q.num, .int (q.den : Int)]) = true := by
    induction L with
    | nil => rfl
    | cons a r ih => simp [PyData.canLayAll0, PyData.canLay0, ih]
  have hd : (PyData.tuple [.int q.num, .int (q.den : Int)]).depth ≤ 60 := by simp [PyData.depth, PyData.depthAll]
  have ha : ((L.map fun q => PyData.tuple [.int q.num, .int (q.den : Int)]).any fun y => PyData.eqv y (.tuple [.int q.num, .int (q.den : Int)])) = decide (q ∈ L) := by
    induction L with
    | nil => rfl
    | cons a r ih =>
      rw [List.map_cons, List.any_cons, ih (by simpa [PyData.canLayAll0, PyData.canLay0] using hl)]
      have e : PyData.eqv (.tuple [.int a.num, .int (a.den : Int)]) (.tuple [.int q.num, .int (q.den : Int)]) = decide (a = q) := by
        have := eqvAll_int [a.num, (a.den : Int)] [q.num, (q.den : Int)]
        simp only [List.map_cons, List.map_nil] at this
        show PyData.eqvAll _ _ = _
        rw [this, decide_eq_decide]
        constructor
        · intro h
          injection h with h1 h2
          injection h2 with h2 _
          exact Rat.ext h1 (by omega)
        · intro h; rw [h]
      rw [e]
      simp only [List.mem_cons, Bool.decide_or]
      congr 1
      rw [decide_eq_decide]
      exact eq_comm
  unfold inD
  rw [show flatD (qD q) = false from rfl]
  simp only [Bool.false_and, Bool.false_eq_true, if_false, py_q, pyL_q]
  have hm : min (PyData.depthAll (L.map fun q => PyData.tuple [.int q.num, .int (q.den : Int)])) (PyData.tuple [.int q.num, .int (q.den : Int)]).depth ≤ 60 := by omega
  simp only [PyData.canLay0, PyData.canLayAll0, hl, Bool.true_and, Bool.and_self, decide_eq_true hm, if_true, ha]
theorem cmp_pos (q r : Rat) : 0 < q.num * (r.den : Int) - r.num * (q.den : Int) ↔ r < q := by
  rw [Rat.lt_iff]; omega
theorem cmp_neg (q r : Rat) : q.num * (r.den : Int) - r.num * (q.den : Int) < 0 ↔ q < r := by
  rw [Rat.lt_iff]; omega
theorem cmp_zero (q r : Rat) : q.num * (r.den : Int) - r.num * (q.den : Int) = 0 ↔ q = r := by
  rw [Rat.eq_iff_mul_eq_mul]; omega
/-! sums of fractions -/
theorem sumQ_cons (a : Rat) (l : List Rat) : (a :: l).sum = a + l.sum := List.sum_cons
theorem sumQ_le {α : Type} {f g : α → Rat} {L : List α} (h : ∀ x ∈ L, f x ≤ g x) : (L.map f).sum ≤ (L.map g).sum := by
  induction L with
  | nil => exact Rat.le_refl
  | cons a r ih =>
    have h1 := h a (by simp)
    have h2 := ih fun x hx => h x (List.mem_cons_of_mem _ hx)
    simp only [List.map_cons, List.sum_cons]
    grind
theorem sumQ_add {α : Type} (f g : α → Rat) (L : List α) : (L.map fun x => f x + g x).sum = (L.map f).sum + (L.map g).sum := by
  induction L with
  | nil => exact (Rat.add_zero 0).symm
  | cons a r ih => simp only [List.map_cons, List.sum_cons, ih]; grind
theorem sumQ_int {α : Type} (f : α → Int) (L : List α) : (L.map fun x => (f x : Rat)).sum = (((L.map f).sum : Int) : Rat) := by
  induction L with
  | nil => rfl
  | cons a r ih => simp only [List.map_cons, List.sum_cons, ih]; push_cast; rfl
theorem sumQ_const {α : Type} (c : Rat) (L : List α) : (L.map fun _ => c).sum = (L.length : Rat) * c := by
  induction L with
  | nil => simp
  | cons a r ih => simp only [List.map_cons, List.sum_cons, ih, List.length_cons]; push_cast; grind
theorem mapQ_congr {α : Type} {f g : α → Rat} {L : List α} (h : ∀ x ∈ L, f x = g x) : L.map f = L.map g := List.map_congr_left h
theorem permQ {L M : List Rat} (h : L.Perm M) : L.sum = M.sum := by
  induction h with
  | nil => rfl
  | cons x _ ih => simp only [List.sum_cons, ih]
  | swap x y l => simp only [List.sum_cons]; grind
  | trans _ _ h1 h2 => exact h1.trans h2
/-- parted by a test -/
theorem sumQ_part {α : Type} (p : α → Bool) (f : α → Rat) (L : List α) : (L.map f).sum = ((L.filter p).map f).sum + ((L.filter fun x => !p x).map f).sum := by
  induction L with
  | nil => exact (Rat.add_zero 0).symm
  | cons a r ih =>
    rw [List.map_cons, List.sum_cons, ih, List.filter_cons, List.filter_cons]
    cases p a <;> simp <;> grind
theorem sumI_part {α : Type} (p : α → Bool) (f : α → Int) (L : List α) : (L.map f).sum = ((L.filter p).map f).sum + ((L.filter fun x => !p x).map f).sum := by
  induction L with
  | nil => simp
  | cons a r ih =>
    rw [List.map_cons, List.sum_cons, ih, List.filter_cons, List.filter_cons]
    cases p a <;> simp <;> omega
end EU
end
section
set_option linter.all false
set_option maxRecDepth 100000
set_option maxHeartbeats 0
namespace P72
open PySem EV
/-- is_whole(value, low, high) -/
def b_is_whole : Ss := (.cons (.ret (.and (.pr (.isinst .int) (.slt 0 .nil)) (.and (.not (.pr (.isinst .bool) (.slt 0 .nil))) (.chn .le .le (.var 1) (.var 0) (.var 2))))) .nil)
def d_is_whole : Def := ⟨3, 3, [], b_is_whole⟩
/-- is_tuple_of(value, low, high) -/
def b_is_tuple_of : Ss := (.cons (.ret (.and (.pr (.isinst .tuple) (.slt 0 .nil)) (.chn .le .le (.var 1) (.pr .len (.slt 0 .nil)) (.var 2)))) .nil)
def d_is_tuple_of : Def := ⟨3, 3, [], b_is_tuple_of⟩
/-- in_lowest(top, bottom, shared) -/
def b_in_lowest : Ss := (.cons (.asg 2 (.pr .gcd (.slt 0 (.slt 1 .nil)))) (.cons (.ite (.pr .lt (.slt 1 (.x (.cst (.int (0))) .nil))) (.cons (.asg 2 (.pr .neg (.slt 2 .nil))) .nil) .nil) (.cons (.ret (.pr .tup (.x (.pr .fdiv (.slt 0 (.slt 2 .nil))) (.x (.pr .fdiv (.slt 1 (.slt 2 .nil))) .nil)))) .nil)))
def d_in_lowest : Def := ⟨2, 3, [], b_in_lowest⟩
/-- sum_of(one, other) -/
def b_sum_of : Ss := (.cons (.ret (.call 2 (.x (.pr .add (.x (.pr .mul (.x (.pr .ix (.slt 0 (.x (.cst (.int (0))) .nil))) (.x (.pr .ix (.slt 1 (.x (.cst (.int (1))) .nil))) .nil))) (.x (.pr .mul (.x (.pr .ix (.slt 1 (.x (.cst (.int (0))) .nil))) (.x (.pr .ix (.slt 0 (.x (.cst (.int (1))) .nil))) .nil))) .nil))) (.x (.pr .mul (.x (.pr .ix (.slt 0 (.x (.cst (.int (1))) .nil))) (.x (.pr .ix (.slt 1 (.x (.cst (.int (1))) .nil))) .nil))) .nil)))) .nil)
def d_sum_of : Def := ⟨2, 2, [], b_sum_of⟩
/-- compared(one, other) -/
def b_compared : Ss := (.cons (.ret (.pr .sub (.x (.pr .mul (.x (.pr .ix (.slt 0 (.x (.cst (.int (0))) .nil))) (.x (.pr .ix (.slt 1 (.x (.cst (.int (1))) .nil))) .nil))) (.x (.pr .mul (.x (.pr .ix (.slt 1 (.x (.cst (.int (0))) .nil))) (.x (.pr .ix (.slt 0 (.x (.cst (.int (1))) .nil))) .nil))) .nil)))) .nil)
def d_compared : Def := ⟨2, 2, [], b_compared⟩
/-- is_tree(value, pair, at) -/
def b_is_tree : Ss := (.cons (.ite (.or (.not (.call 1 (.x (.var 0) (.x (.cst (.int (0))) (.x (.glb 0 (30)) .nil))))) (.not (.pr .all (.x (.lc [1] (.nm 1) (.x (.var 0)) (.cst (.bl true)) (.call 1 (.x (.var 1) (.x (.cst (.int (2))) (.x (.cst (.int (2))) .nil))))) .nil)))) (.cons (.ret (.cst (.bl false))) .nil) .nil) (.cons (.ret (.pr .all (.x (.lc [2, 1] (.tp [2, 1]) (.en (.var 0)) (.cst (.bl true)) (.and (.call 0 (.x (.pr .ix (.slt 1 (.x (.cst (.int (0))) .nil))) (.x (.cst (.int (0))) (.x (.var 2) .nil)))) (.call 0 (.x (.pr .ix (.slt 1 (.x (.cst (.int (1))) .nil))) (.x (.cst (.int (0))) (.x (.glb 1 (1000000)) .nil)))))) .nil))) .nil))
def d_is_tree : Def := ⟨1, 3, [], b_is_tree⟩
/-- need_tree(value) -/
def b_need_tree : Ss := (.cons (.ite (.not (.call 5 (.x (.var 0) .nil))) (.cons (.raise 1) .nil) .nil) .nil)
def d_need_tree : Def := ⟨1, 1, [], b_need_tree⟩
/-- branches(tree, found, at, before, branch) -/
def b_branches : Ss := (.cons (.asg 1 (.lc [2] (.nm 2) (.rng 1 (.x (.pr .len (.slt 0 .nil)) .nil)) (.cst (.bl true)) (.pr .lst (.x (.var 2) .nil)))) (.cons (.for_ (.nm 2) (.rng 3 (.x (.pr .sub (.x (.pr .len (.slt 0 .nil)) (.x (.cst (.int (1))) .nil))) (.x (.pr .neg (.x (.cst (.int (1))) .nil)) (.x (.pr .neg (.x (.cst (.int (1))) .nil)) .nil)))) (.cons (.asg 3 (.pr .ix (.x (.pr .ix (.slt 0 (.slt 2 .nil))) (.x (.cst (.int (0))) .nil)))) (.cons (.ite (.pr .gt (.slt 3 (.x (.cst (.int (0))) .nil))) (.cons (.setix 1 (.pr .sub (.slt 3 (.x (.cst (.int (1))) .nil))) (.pr .add (.x (.pr .ix (.slt 1 (.x (.pr .sub (.slt 3 (.x (.cst (.int (1))) .nil))) .nil))) (.x (.pr .ix (.slt 1 (.slt 2 .nil))) .nil)))) .nil) .nil) .nil))) (.cons (.ret (.lc [4] (.nm 4) (.slt 1) (.cst (.bl true)) (.pr .sorted (.slt 4 .nil)))) .nil)))
def d_branches : Def := ⟨1, 5, [], b_branches⟩
/-- costs_in(tree, at, branch) -/
def b_costs_in : Ss := (.cons (.ret (.lc [2] (.nm 2) (.x (.call 7 (.x (.var 0) .nil))) (.cst (.bl true)) (.pr .sum (.x (.lc [1] (.nm 1) (.slt 2) (.cst (.bl true)) (.pr .ix (.x (.pr .ix (.slt 0 (.slt 1 .nil))) (.x (.cst (.int (1))) .nil)))) .nil)))) .nil)
def d_costs_in : Def := ⟨1, 3, [], b_costs_in⟩
/-- even_amounts(tree, found, line, branch, at) -/
def b_even_amounts : Ss := (.cons (.expr (.call 6 (.x (.var 0) .nil))) (.cons (.asg 1 (.pr .mul (.x (.pr .lst (.x (.pr .tup (.x (.cst (.int (0))) (.x (.cst (.int (1))) .nil))) .nil)) (.x (.pr .len (.slt 0 .nil)) .nil)))) (.cons (.for_ (.tp [2, 3]) (.en (.call 7 (.x (.var 0) .nil))) (.cons (.for_ (.nm 4) (.x (.var 3)) (.cons (.setix 1 (.var 4) (.call 3 (.x (.pr .ix (.slt 1 (.slt 4 .nil))) (.x (.call 2 (.x (.pr .ix (.x (.pr .ix (.slt 0 (.slt 2 .nil))) (.x (.cst (.int (1))) .nil))) (.x (.pr .len (.slt 3 .nil)) .nil))) .nil)))) .nil)) .nil)) (.cons (.ret (.pr .tuple (.slt 1 .nil))) .nil))))
def d_even_amounts : Def := ⟨1, 5, [], b_even_amounts⟩
/-- greatest(pairs, found, pair) -/
def b_greatest : Ss := (.cons (.asg 1 (.pr .ix (.slt 0 (.x (.cst (.int (0))) .nil)))) (.cons (.for_ (.nm 2) (.x (.var 0)) (.cons (.ite (.pr .gt (.x (.call 4 (.x (.var 2) (.x (.var 1) .nil))) (.x (.cst (.int (0))) .nil))) (.cons (.asg 1 (.var 2)) .nil) .nil) .nil)) (.cons (.ret (.mv 1)) .nil)))
def d_greatest : Def := ⟨1, 3, [], b_greatest⟩
/-- least_peak(tree, cost, branch) -/
def b_least_peak : Ss := (.cons (.expr (.call 6 (.x (.var 0) .nil))) (.cons (.ite (.pr .eq (.slt 0 (.x (.pr .tup .nil) .nil))) (.cons (.ret (.cst .non)) .nil) .nil) (.cons (.ret (.call 10 (.x (.lc [1, 2] (.tp [1, 2]) (.zip (.x (.call 8 (.x (.var 0) .nil)) (.x (.call 7 (.x (.var 0) .nil)) .nil))) (.cst (.bl true)) (.call 2 (.x (.var 1) (.x (.pr .len (.slt 2 .nil)) .nil)))) .nil))) .nil)))
def d_least_peak : Def := ⟨1, 3, [], b_least_peak⟩
/-- levelled(tree, some, costs, found, ways, branch, cost, open_ones, at, lack, peak, ratio, widest) -/
def b_levelled : Ss := (.cons (.expr (.call 6 (.x (.var 0) .nil))) (.cons (.par [1, 2, 3] (.x (.call 7 (.x (.var 0) .nil)) (.x (.call 8 (.x (.var 0) .nil)) (.x (.pr .mul (.x (.pr .lst (.x (.cst .non) .nil)) (.x (.pr .len (.slt 0 .nil)) .nil))) .nil)))) (.cons (.whl (.pr .isin (.x (.cst .non) (.slt 3 .nil))) (.cons (.asg 4 (.pr .lst .nil)) (.cons (.for_ (.tp [5, 6]) (.zip (.slt 1 (.slt 2 .nil))) (.cons (.asg 7 (.lc [8] (.nm 8) (.slt 5) (.pr .isnone (.x (.pr .ix (.slt 3 (.slt 8 .nil))) .nil)) (.var 8))) (.cons (.asg 9 (.pr .tup (.x (.var 6) (.x (.cst (.int (1))) .nil)))) (.cons (.for_ (.nm 8) (.slt 5) (.cons (.ite (.pr .notnone (.x (.pr .ix (.slt 3 (.slt 8 .nil))) .nil)) (.cons (.asg 9 (.call 3 (.x (.var 9) (.x (.pr .tup (.x (.pr .neg (.x (.pr .ix (.x (.pr .ix (.slt 3 (.slt 8 .nil))) (.x (.cst (.int (0))) .nil))) .nil)) (.x (.pr .ix (.x (.pr .ix (.slt 3 (.slt 8 .nil))) (.x (.cst (.int (1))) .nil))) .nil))) .nil)))) .nil) .nil) .nil)) (.cons (.ite (.pr .ne (.slt 7 (.x (.pr .lst .nil) .nil))) (.cons (.app 4 (.pr .tup (.x (.call 2 (.x (.pr .ix (.slt 9 (.x (.cst (.int (0))) .nil))) (.x (.pr .mul (.x (.pr .ix (.slt 9 (.x (.cst (.int (1))) .nil))) (.x (.pr .len (.slt 7 .nil)) .nil))) .nil))) (.x (.var 7) .nil)))) .nil) .nil) .nil))))) (.cons (.asg 10 (.call 10 (.x (.lc [11, 7] (.tp [11, 7]) (.slt 4) (.cst (.bl true)) (.var 11)) .nil))) (.cons (.asg 12 (.pr .maxLen (.x (.lc [11, 7] (.tp [11, 7]) (.slt 4) (.pr .eq (.slt 11 (.slt 10 .nil))) (.var 7)) .nil))) (.cons (.for_ (.nm 8) (.slt 12) (.cons (.setix 3 (.var 8) (.var 10)) .nil)) .nil)))))) (.cons (.ret (.pr .tuple (.slt 3 .nil))) .nil))))
def d_levelled : Def := ⟨1, 13, [], b_levelled⟩
/-- _law_cup(script, cell) -/
def b__law_cup : Ss := (.cons (.asg 1 (.pr .abs (.x (.pr .ix (.x (.pr .add (.x (.pr .list (.slt 0 .nil)) (.x (.pr .lst (.x (.cst (.int (0))) .nil)) .nil))) (.x (.cst (.int (0))) .nil))) .nil))) (.cons (.ret (.pr .lst (.x (.ite (.pr .ge (.slt 1 (.x (.pr .pow (.x (.cst (.int (10))) (.x (.cst (.int (18))) .nil))) .nil))) (.pr .fdiv (.slt 1 (.x (.cst (.int (103))) .nil))) (.cst (.int (0)))) (.x (.pr .add (.x (.pr .mod (.x (.pr .int (.x (.pr .add (.x (.pr .mul (.slt 1 (.x (.cst (.int (349))) .nil))) (.x (.cst (.int (5003))) .nil))) .nil)) (.x (.cst (.int (2014129333))) .nil))) (.x (.cst (.int (199))) .nil))) .nil)))) .nil))
def d__law_cup : Def := ⟨1, 2, [], b__law_cup⟩
/-- _law_roll(cup, many, found, deep) -/
def b__law_roll : Ss := (.cons (.ite (.pr .gt (.x (.pr .ix (.slt 0 (.x (.cst (.int (0))) .nil))) (.x (.cst (.int (0))) .nil))) (.cons (.asg 2 (.pr .mod (.x (.pr .int (.x (.pr .ix (.slt 0 (.x (.cst (.int (0))) .nil))) .nil)) (.slt 1 .nil)))) (.cons (.setix 0 (.cst (.int (0))) (.pr .fdiv (.x (.pr .ix (.slt 0 (.x (.cst (.int (0))) .nil))) (.slt 1 .nil)))) (.cons (.ret (.mv 2)) .nil))) .nil) (.cons (.setix 0 (.cst (.int (1))) (.pr .mod (.x (.pr .int (.x (.pr .add (.x (.pr .mul (.x (.pr .ix (.slt 0 (.x (.cst (.int (1))) .nil))) (.x (.cst (.int (30307))) .nil))) (.x (.cst (.int (8707))) .nil))) .nil)) (.x (.cst (.int (2147483543))) .nil)))) (.cons (.asg 3 (.pr .mod (.x (.pr .int (.x (.pr .mul (.x (.pr .ix (.slt 0 (.x (.cst (.int (1))) .nil))) (.x (.pr .add (.x (.pr .ix (.slt 0 (.x (.cst (.int (1))) .nil))) (.x (.cst (.int (277))) .nil))) .nil))) .nil)) (.x (.cst (.int (2147483587))) .nil)))) (.cons (.ret (.pr .mod (.x (.pr .int (.x (.pr .fdiv (.slt 3 (.x (.cst (.int (863))) .nil))) .nil)) (.slt 1 .nil)))) .nil))))
def d__law_roll : Def := ⟨2, 4, [0], b__law_roll⟩
/-- _law_some(cup, things) -/
def b__law_some : Ss := (.cons (.ret (.pr .ix (.slt 1 (.x (.call 14 (.slt 0 (.x (.pr .len (.slt 1 .nil)) .nil))) .nil)))) .nil)
def d__law_some : Def := ⟨2, 2, [0], b__law_some⟩
/-- _law_sort(value) -/
def b__law_sort : Ss := (.cons (.ite (.or (.pr .isnone (.slt 0 .nil)) (.pr (.isinst .bool) (.slt 0 .nil))) (.cons (.ret (.ite (.pr .isnone (.slt 0 .nil)) (.cst (.int (0))) (.cst (.int (1))))) .nil) .nil) (.cons (.ite (.or (.pr (.isinst .int) (.slt 0 .nil)) (.pr (.isinst .str) (.slt 0 .nil))) (.cons (.ret (.ite (.pr (.isinst .int) (.slt 0 .nil)) (.cst (.int (2))) (.cst (.int (3))))) .nil) .nil) (.cons (.ret (.ite (.pr (.isinst .tuple) (.slt 0 .nil)) (.cst (.int (4))) (.ite (.pr (.isinst .list) (.slt 0 .nil)) (.cst (.int (5))) (.cst (.int (6)))))) .nil)))
def d__law_sort : Def := ⟨1, 1, [], b__law_sort⟩
/-- _law_like(one, other, sort, first, second) -/
def b__law_like : Ss := (.cons (.asg 2 (.call 16 (.x (.var 1) .nil))) (.cons (.ite (.or (.pr .ne (.x (.call 16 (.x (.var 0) .nil)) (.slt 2 .nil))) (.pr .eq (.slt 2 (.x (.cst (.int (6))) .nil)))) (.cons (.ret (.cst (.bl false))) .nil) .nil) (.cons (.ite (.pr .isin (.slt 2 (.x (.pr .tup (.x (.cst (.int (4))) (.x (.cst (.int (5))) .nil))) .nil))) (.cons (.ret (.and (.pr .eq (.x (.pr .len (.slt 0 .nil)) (.x (.pr .len (.slt 1 .nil)) .nil))) (.pr .eq (.x (.lc [3, 4] (.tp [3, 4]) (.zip (.x (.var 0) (.x (.var 1) .nil))) (.not (.call 17 (.x (.var 3) (.x (.var 4) .nil)))) (.cst (.int (1)))) (.x (.pr .lst .nil) .nil))))) .nil) .nil) (.cons (.ret (.pr .eq (.slt 0 (.slt 1 .nil)))) .nil))))
def d__law_like : Def := ⟨2, 5, [], b__law_like⟩
/-- _law_low(top, bottom, one, other, turn, shared) -/
def b__law_low : Ss := (.cons (.par [2, 3] (.x (.pr .abs (.slt 0 .nil)) (.x (.pr .abs (.slt 1 .nil)) .nil))) (.cons (.for_ (.nm 4) (.rng 1 (.x (.cst (.int (3000))) .nil)) (.cons (.ite (.pr .eq (.slt 3 (.x (.cst (.int (0))) .nil))) (.cons (.asg 5 (.ite (.pr .gt (.slt 1 (.x (.cst (.int (0))) .nil))) (.var 2) (.pr .neg (.slt 2 .nil)))) (.cons (.ret (.pr .tup (.x (.pr .fdiv (.slt 0 (.slt 5 .nil))) (.x (.pr .fdiv (.slt 1 (.slt 5 .nil))) .nil)))) .nil)) .nil) (.cons (.par [2, 3] (.x (.var 3) (.x (.pr .mod (.x (.pr .int (.slt 2 .nil)) (.slt 3 .nil))) .nil))) .nil))) (.cons (.ret (.pr .tup (.x (.var 0) (.x (.var 1) .nil)))) .nil)))
def d__law_low : Def := ⟨2, 6, [], b__law_low⟩
/-- _law_add(one, other) -/
def b__law_add : Ss := (.cons (.ret (.call 18 (.x (.pr .add (.x (.pr .mul (.x (.pr .ix (.slt 0 (.x (.cst (.int (0))) .nil))) (.x (.pr .ix (.slt 1 (.x (.cst (.int (1))) .nil))) .nil))) (.x (.pr .mul (.x (.pr .ix (.slt 1 (.x (.cst (.int (0))) .nil))) (.x (.pr .ix (.slt 0 (.x (.cst (.int (1))) .nil))) .nil))) .nil))) (.x (.pr .mul (.x (.pr .ix (.slt 0 (.x (.cst (.int (1))) .nil))) (.x (.pr .ix (.slt 1 (.x (.cst (.int (1))) .nil))) .nil))) .nil)))) .nil)
def d__law_add : Def := ⟨2, 2, [], b__law_add⟩
/-- _law_order(pairs, found, pair, at, own) -/
def b__law_order : Ss := (.cons (.asg 1 (.pr .lst .nil)) (.cons (.for_ (.nm 2) (.x (.var 0)) (.cons (.asg 3 (.pr .len (.x (.lc [4] (.nm 4) (.slt 1) (.pr .lt (.x (.pr .mul (.x (.pr .ix (.slt 4 (.x (.cst (.int (0))) .nil))) (.x (.pr .ix (.slt 2 (.x (.cst (.int (1))) .nil))) .nil))) (.x (.pr .mul (.x (.pr .ix (.slt 2 (.x (.cst (.int (0))) .nil))) (.x (.pr .ix (.slt 4 (.x (.cst (.int (1))) .nil))) .nil))) .nil))) (.var 4)) .nil))) (.cons (.asg 1 (.ite (.pr .isin (.slt 2 (.slt 1 .nil))) (.var 1) (.pr .add (.x (.pr .add (.x (.pr (.slc false true) (.slt 1 (.slt 3 .nil))) (.x (.pr .lst (.x (.var 2) .nil)) .nil))) (.x (.pr (.slc true false) (.slt 1 (.slt 3 .nil))) .nil))))) .nil))) (.cons (.ret (.mv 1)) .nil)))
def d__law_order : Def := ⟨1, 5, [], b__law_order⟩
/-- _law_is_pair(value, tops, bottoms) -/
def b__law_is_pair : Ss := (.cons (.ite (.or (.pr .ne (.x (.call 16 (.x (.var 0) .nil)) (.x (.cst (.int (4))) .nil))) (.or (.pr .ne (.x (.pr .len (.slt 0 .nil)) (.x (.cst (.int (2))) .nil))) (.or (.pr .ne (.x (.call 16 (.x (.pr .ix (.slt 0 (.x (.cst (.int (0))) .nil))) .nil)) (.x (.cst (.int (2))) .nil))) (.pr .ne (.x (.call 16 (.x (.pr .ix (.slt 0 (.x (.cst (.int (1))) .nil))) .nil)) (.x (.cst (.int (2))) .nil)))))) (.cons (.ret (.cst (.bl false))) .nil) .nil) (.cons (.ret (.and (.chn .le .le (.cst (.int (0))) (.pr .ix (.slt 0 (.x (.cst (.int (0))) .nil))) (.var 1)) (.and (.chn .le .le (.cst (.int (1))) (.pr .ix (.slt 0 (.x (.cst (.int (1))) .nil))) (.var 2)) (.pr .eq (.x (.call 18 (.x (.pr .ix (.slt 0 (.x (.cst (.int (0))) .nil))) (.x (.pr .ix (.slt 0 (.x (.cst (.int (1))) .nil))) .nil))) (.slt 0 .nil)))))) .nil))
def d__law_is_pair : Def := ⟨3, 3, [], b__law_is_pair⟩
/-- _law_tree(cup, many, cost, way, found, at, before) -/
def b__law_tree : Ss := (.cons (.par [3, 4] (.x (.call 14 (.slt 0 (.x (.cst (.int (4))) .nil))) (.x (.pr .lst .nil) .nil))) (.cons (.for_ (.nm 5) (.rng 1 (.slt 1 .nil)) (.cons (.asg 6 (.ite (.pr .eq (.slt 3 (.x (.cst (.int (0))) .nil))) (.var 5) (.ite (.pr .eq (.slt 3 (.x (.cst (.int (1))) .nil))) (.cst (.int (0))) (.ite (.pr .eq (.slt 3 (.x (.cst (.int (2))) .nil))) (.pr .max2 (.x (.cst (.int (0))) (.x (.pr .sub (.slt 5 (.x (.call 14 (.slt 0 (.x (.cst (.int (3))) .nil))) .nil))) .nil))) (.call 14 (.slt 0 (.x (.pr .add (.slt 5 (.x (.cst (.int (1))) .nil))) .nil))))))) (.cons (.app 4 (.pr .tup (.x (.var 6) (.x (.call 15 (.slt 0 (.x (.pr .lst (.x (.cst (.int (0))) (.x (.cst (.int (1))) (.x (.cst (.int (3))) (.x (.cst (.int (7))) (.x (.call 14 (.slt 0 (.x (.pr .add (.slt 2 (.x (.cst (.int (1))) .nil))) .nil))) .nil)))))) .nil))) .nil)))) .nil))) (.cons (.ret (.pr .tuple (.slt 4 .nil))) .nil)))
def d__law_tree : Def := ⟨3, 7, [0], b__law_tree⟩
/-- _law_way(tree, place, found, turn) -/
def b__law_way : Ss := (.cons (.asg 2 (.pr .lst .nil)) (.cons (.for_ (.nm 3) (.rng 1 (.x (.pr .len (.slt 0 .nil)) .nil)) (.cons (.ite (.pr .gt (.slt 1 (.x (.cst (.int (0))) .nil))) (.cons (.app 2 (.pr .sub (.slt 1 (.x (.cst (.int (1))) .nil)))) (.cons (.asg 1 (.pr .ix (.x (.pr .ix (.slt 0 (.x (.pr .sub (.slt 1 (.x (.cst (.int (1))) .nil))) .nil))) (.x (.cst (.int (0))) .nil)))) .nil)) .nil) .nil)) (.cons (.ret (.mv 2)) .nil)))
def d__law_way : Def := ⟨2, 4, [], b__law_way⟩
/-- _law_branch(tree, place, at) -/
def b__law_branch : Ss := (.cons (.ret (.lc [2] (.nm 2) (.rng 1 (.x (.pr .len (.slt 0 .nil)) .nil)) (.pr .isin (.x (.pr .sub (.slt 1 (.x (.cst (.int (1))) .nil))) (.x (.call 23 (.x (.var 0) (.x (.pr .add (.slt 2 (.x (.cst (.int (1))) .nil))) .nil))) .nil))) (.var 2))) .nil)
def d__law_branch : Def := ⟨2, 3, [], b__law_branch⟩
/-- _law_cost(tree, place, at) -/
def b__law_cost : Ss := (.cons (.ret (.pr .sum (.x (.lc [2] (.nm 2) (.x (.call 24 (.x (.var 0) (.x (.var 1) .nil)))) (.cst (.bl true)) (.pr .ix (.x (.pr .ix (.slt 0 (.slt 2 .nil))) (.x (.cst (.int (1))) .nil)))) .nil))) .nil)
def d__law_cost : Def := ⟨2, 3, [], b__law_cost⟩
/-- _law_error(call, e, some, word, good) -/
def b__law_error : Ss := (.cons .brk .nil)
def d__law_error : Def := ⟨1, 5, [], b__law_error⟩
/-- _law_sum(pairs, found, pair) -/
def b__law_sum : Ss := (.cons (.asg 1 (.pr .tup (.x (.cst (.int (0))) (.x (.cst (.int (1))) .nil)))) (.cons (.for_ (.nm 2) (.x (.var 0)) (.cons (.asg 1 (.call 19 (.x (.var 1) (.x (.var 2) .nil)))) .nil)) (.cons (.ret (.mv 1)) .nil)))
def d__law_sum : Def := ⟨1, 3, [], b__law_sum⟩
/-- _law_less(one, other) -/
def b__law_less : Ss := (.cons (.ret (.pr .lt (.x (.pr .mul (.x (.pr .ix (.slt 0 (.x (.cst (.int (0))) .nil))) (.x (.pr .ix (.slt 1 (.x (.cst (.int (1))) .nil))) .nil))) (.x (.pr .mul (.x (.pr .ix (.slt 1 (.x (.cst (.int (0))) .nil))) (.x (.pr .ix (.slt 0 (.x (.cst (.int (1))) .nil))) .nil))) .nil)))) .nil)
def d__law_less : Def := ⟨2, 2, [], b__law_less⟩
/-- _law_are_fair(tree, amounts, one, before, cost, tight, place, branch, paid, at) -/
def b__law_are_fair : Ss := (.cons (.ite (.or (.pr .ne (.x (.lc [2] (.nm 2) (.x (.var 1)) (.not (.call 21 (.x (.var 2) (.x (.pr .pow (.x (.cst (.int (10))) (.x (.cst (.int (40))) .nil))) (.x (.pr .pow (.x (.cst (.int (10))) (.x (.cst (.int (40))) .nil))) .nil))))) (.cst (.int (1)))) (.x (.pr .lst .nil) .nil))) (.pr .ne (.x (.call 27 (.x (.var 1) .nil)) (.x (.pr .tup (.x (.pr .sum (.x (.lc [3, 4] (.tp [3, 4]) (.x (.var 0)) (.cst (.bl true)) (.var 4)) .nil)) (.x (.cst (.int (1))) .nil))) .nil)))) (.cons (.ret (.pr .tup (.x (.cst (.bl false)) (.x (.pr .lst .nil) .nil)))) .nil) .nil) (.cons (.asg 5 (.pr .lst .nil)) (.cons (.for_ (.nm 6) (.rng 2 (.x (.cst (.int (1))) (.x (.pr .add (.x (.pr .len (.slt 0 .nil)) (.x (.cst (.int (1))) .nil))) .nil))) (.cons (.par [7, 4] (.x (.call 24 (.x (.var 0) (.x (.var 6) .nil))) (.x (.pr .tup (.x (.call 25 (.x (.var 0) (.x (.var 6) .nil))) (.x (.cst (.int (1))) .nil))) .nil))) (.cons (.asg 8 (.call 27 (.x (.lc [9] (.nm 9) (.slt 7) (.cst (.bl true)) (.pr .ix (.slt 1 (.slt 9 .nil)))) .nil))) (.cons (.ite (.call 28 (.x (.var 8) (.x (.var 4) .nil))) (.cons (.ret (.pr .tup (.x (.cst (.bl false)) (.x (.pr .lst .nil) .nil)))) .nil) .nil) (.cons (.asg 5 (.pr .add (.slt 5 (.x (.ite (.pr .eq (.slt 8 (.slt 4 .nil))) (.pr .lst (.x (.var 7) .nil)) (.pr .lst .nil)) .nil)))) .nil))))) (.cons (.ret (.pr .tup (.x (.cst (.bl true)) (.x (.var 5) .nil)))) .nil))))
def d__law_are_fair : Def := ⟨2, 10, [], b__law_are_fair⟩
/-- _law_right(tree, even, line, branch, at, peaks, place, told, own, is_fair, tight, one, other) -/
def b__law_right : Ss := (.cons (.asg 1 (.pr .mul (.x (.pr .lst (.x (.pr .tup (.x (.cst (.int (0))) (.x (.cst (.int (1))) .nil))) .nil)) (.x (.pr .len (.slt 0 .nil)) .nil)))) (.cons (.for_ (.nm 2) (.rng 1 (.x (.pr .len (.slt 0 .nil)) .nil)) (.cons (.asg 3 (.call 24 (.x (.var 0) (.x (.pr .add (.slt 2 (.x (.cst (.int (1))) .nil))) .nil)))) (.cons (.for_ (.nm 4) (.x (.var 3)) (.cons (.setix 1 (.var 4) (.call 19 (.x (.pr .ix (.slt 1 (.slt 4 .nil))) (.x (.call 18 (.x (.pr .ix (.x (.pr .ix (.slt 0 (.slt 2 .nil))) (.x (.cst (.int (1))) .nil))) (.x (.pr .len (.slt 3 .nil)) .nil))) .nil)))) .nil)) .nil))) (.cons (.asg 5 (.call 20 (.x (.lc [6] (.nm 6) (.rng 2 (.x (.cst (.int (1))) (.x (.pr .add (.x (.pr .len (.slt 0 .nil)) (.x (.cst (.int (1))) .nil))) .nil))) (.cst (.bl true)) (.call 18 (.x (.call 25 (.x (.var 0) (.x (.var 6) .nil))) (.x (.pr .len (.x (.call 24 (.x (.var 0) (.x (.var 6) .nil))) .nil)) .nil)))) .nil))) (.cons (.par [7, 8] (.x (.call 11 (.x (.var 0) .nil)) (.x (.call 12 (.x (.var 0) .nil)) .nil))) (.cons (.ite (.or (.not (.call 17 (.x (.pr .lst (.x (.call 9 (.x (.var 0) .nil)) (.x (.var 7) .nil))) (.x (.pr .lst (.x (.pr .tuple (.slt 1 .nil)) (.x (.ite (.pr .ne (.slt 5 (.x (.pr .lst .nil) .nil))) (.pr .ix (.slt 5 (.x (.pr .neg (.x (.cst (.int (1))) .nil)) .nil))) (.cst .non)) .nil))) .nil)))) (.or (.pr .ne (.x (.call 16 (.x (.var 8) .nil)) (.x (.cst (.int (4))) .nil))) (.pr .ne (.x (.pr .len (.slt 8 .nil)) (.x (.pr .len (.slt 0 .nil)) .nil))))) (.cons (.ret (.cst (.bl false))) .nil) .nil) (.cons (.unp (.tp [9, 10]) (.call 29 (.x (.var 0) (.x (.var 8) .nil)))) (.cons (.ite (.or (.not (.var 9)) (.or (.not (.pr .ix (.x (.call 29 (.x (.var 0) (.x (.pr .tuple (.slt 1 .nil)) .nil))) (.x (.cst (.int (0))) .nil)))) (.and (.pr .ne (.slt 5 (.x (.pr .lst .nil) .nil))) (.pr .ne (.x (.pr .ix (.x (.call 20 (.x (.pr .list (.slt 8 .nil)) .nil)) (.x (.pr .neg (.x (.cst (.int (1))) .nil)) .nil))) (.x (.pr .ix (.slt 5 (.x (.pr .neg (.x (.cst (.int (1))) .nil)) .nil))) .nil)))))) (.cons (.ret (.cst (.bl false))) .nil) .nil) (.cons (.for_ (.nm 11) (.rng 1 (.x (.pr .len (.slt 0 .nil)) .nil)) (.cons (.for_ (.nm 12) (.rng 1 (.x (.pr .len (.slt 0 .nil)) .nil)) (.cons (.ite (.and (.call 28 (.x (.pr .ix (.slt 8 (.slt 12 .nil))) (.x (.pr .ix (.slt 8 (.slt 11 .nil))) .nil))) (.pr .eq (.x (.lc [3] (.nm 3) (.slt 10) (.and (.pr .isin (.slt 11 (.slt 3 .nil))) (.pr .notin (.slt 12 (.slt 3 .nil)))) (.var 3)) (.x (.pr .lst .nil) .nil)))) (.cons (.ret (.cst (.bl false))) .nil) .nil) .nil)) .nil)) (.cons (.ret (.cst (.bl true))) .nil)))))))))
def d__law_right : Def := ⟨1, 13, [], b__law_right⟩
/-- law(script, cup, turn, tree, told, due, words, odd, call, rising, falling, at, mean, before, cost) -/
def b_law : Ss := (.cons (.asg 1 (.call 13 (.x (.var 0) .nil))) (.cons (.for_ (.nm 2) (.rng 1 (.x (.cst (.int (4))) .nil)) (.cons (.ite (.not (.call 30 (.x (.call 22 (.slt 1 (.x (.call 14 (.slt 1 (.x (.cst (.int (9))) .nil))) (.x (.cst (.int (20))) .nil)))) .nil))) (.cons (.ret (.cst (.bl false))) .nil) .nil) .nil)) (.cons (.asg 3 (.pr .tup (.x (.pr .tup (.x (.cst (.int (0))) (.x (.cst (.int (6))) .nil))) (.x (.pr .tup (.x (.cst (.int (1))) (.x (.cst (.int (3))) .nil))) (.x (.pr .tup (.x (.cst (.int (1))) (.x (.cst (.int (0))) .nil))) (.x (.pr .tup (.x (.cst (.int (0))) (.x (.cst (.int (4))) .nil))) .nil)))))) (.cons (.asg 4 (.pr .lst (.x (.call 9 (.x (.var 3) .nil)) (.x (.call 11 (.x (.var 3) .nil)) (.x (.call 12 (.x (.var 3) .nil)) (.x (.call 12 (.x (.pr .tup .nil) .nil)) (.x (.call 11 (.x (.pr .tup .nil) .nil)) (.x (.call 9 (.x (.pr .tup .nil) .nil)) .nil)))))))) (.cons (.ite (.not (.call 17 (.x (.var 4) (.x (.pr .lst (.x (.pr .tup (.x (.pr .tup (.x (.cst (.int (2))) (.x (.cst (.int (1))) .nil))) (.x (.pr .tup (.x (.cst (.int (5))) (.x (.cst (.int (1))) .nil))) (.x (.pr .tup (.x (.cst (.int (2))) (.x (.cst (.int (1))) .nil))) (.x (.pr .tup (.x (.cst (.int (4))) (.x (.cst (.int (1))) .nil))) .nil))))) (.x (.pr .tup (.x (.cst (.int (4))) (.x (.cst (.int (1))) .nil))) (.x (.pr .tup (.x (.pr .tup (.x (.cst (.int (3))) (.x (.cst (.int (1))) .nil))) (.x (.pr .tup (.x (.cst (.int (3))) (.x (.cst (.int (1))) .nil))) (.x (.pr .tup (.x (.cst (.int (3))) (.x (.cst (.int (1))) .nil))) (.x (.pr .tup (.x (.cst (.int (4))) (.x (.cst (.int (1))) .nil))) .nil))))) (.x (.pr .tup .nil) (.x (.cst .non) (.x (.pr .tup .nil) .nil))))))) .nil)))) (.cons (.ret (.cst (.bl false))) .nil) .nil) (.cons (.asg 4 (.pr .lst (.x (.call 12 (.x (.pr .tup (.x (.pr .tup (.x (.cst (.int (0))) (.x (.cst (.int (1))) .nil))) (.x (.pr .tup (.x (.cst (.int (1))) (.x (.cst (.int (9))) .nil))) .nil))) .nil)) (.x (.call 12 (.x (.pr .tup (.x (.pr .tup (.x (.cst (.int (0))) (.x (.cst (.int (9))) .nil))) (.x (.pr .tup (.x (.cst (.int (1))) (.x (.cst (.int (1))) .nil))) .nil))) .nil)) (.x (.call 12 (.x (.pr .tup (.x (.pr .tup (.x (.cst (.int (0))) (.x (.cst (.int (0))) .nil))) (.x (.pr .tup (.x (.cst (.int (1))) (.x (.cst (.int (0))) .nil))) .nil))) .nil)) (.x (.call 12 (.x (.pr .tup (.x (.pr .tup (.x (.cst (.int (0))) (.x (.cst (.int (2))) .nil))) (.x (.pr .tup (.x (.cst (.int (1))) (.x (.cst (.int (1))) .nil))) (.x (.pr .tup (.x (.cst (.int (1))) (.x (.cst (.int (4))) .nil))) (.x (.pr .tup (.x (.cst (.int (2))) (.x (.cst (.int (0))) .nil))) .nil))))) .nil)) (.x (.call 11 (.x (.pr .tup (.x (.pr .tup (.x (.cst (.int (0))) (.x (.cst (.int (1))) .nil))) (.x (.pr .tup (.x (.cst (.int (1))) (.x (.cst (.int (1))) .nil))) (.x (.pr .tup (.x (.cst (.int (1))) (.x (.cst (.int (1))) .nil))) .nil)))) .nil)) .nil))))))) (.cons (.asg 5 (.pr .lst (.x (.pr .tup (.x (.pr .tup (.x (.cst (.int (1))) (.x (.cst (.int (1))) .nil))) (.x (.pr .tup (.x (.cst (.int (9))) (.x (.cst (.int (1))) .nil))) .nil))) (.x (.pr .tup (.x (.pr .tup (.x (.cst (.int (5))) (.x (.cst (.int (1))) .nil))) (.x (.pr .tup (.x (.cst (.int (5))) (.x (.cst (.int (1))) .nil))) .nil))) (.x (.pr .tup (.x (.pr .tup (.x (.cst (.int (0))) (.x (.cst (.int (1))) .nil))) (.x (.pr .tup (.x (.cst (.int (0))) (.x (.cst (.int (1))) .nil))) .nil))) (.x (.pr .tup (.x (.pr .tup (.x (.cst (.int (1))) (.x (.cst (.int (1))) .nil))) (.x (.pr .tup (.x (.cst (.int (1))) (.x (.cst (.int (1))) .nil))) (.x (.pr .tup (.x (.cst (.int (4))) (.x (.cst (.int (1))) .nil))) (.x (.pr .tup (.x (.cst (.int (1))) (.x (.cst (.int (1))) .nil))) .nil))))) (.x (.pr .tup (.x (.cst (.int (1))) (.x (.cst (.int (1))) .nil))) .nil))))))) (.cons (.ite (.not (.call 17 (.x (.var 4) (.x (.var 5) .nil)))) (.cons (.ret (.cst (.bl false))) .nil) .nil) (.cons (.asg 6 (.pr .lst .nil)) (.cons (.for_ (.nm 7) (.x (.pr .tup (.x (.cst .non) (.x (.pr .lst (.x (.pr .tup (.x (.cst (.int (0))) (.x (.cst (.int (1))) .nil))) .nil)) (.x (.pr .tup (.x (.pr .tup (.x (.cst (.int (1))) (.x (.cst (.int (1))) .nil))) .nil)) (.x (.pr .tup (.x (.pr .tup (.x (.cst (.int (0))) (.x (.pr .neg (.x (.cst (.int (1))) .nil)) .nil))) .nil)) (.x (.pr .tup (.x (.pr .tup (.x (.cst (.int (0))) (.x (.cst (.bl true)) .nil))) .nil)) (.x (.pr .mul (.x (.pr .tup (.x (.pr .tup (.x (.cst (.int (0))) (.x (.cst (.int (1))) .nil))) .nil)) (.x (.cst (.int (31))) .nil))) (.x (.cst (.int (7))) .nil))))))))) (.cons (.asg 6 (.pr .add (.slt 6 (.x (.lc [8] (.nm 8) (.x (.pr .tup (.x (.fnv 9) (.x (.fnv 11) (.x (.fnv 12) .nil))))) (.cst (.bl true)) (.tried 26 (.callv 8 (.x (.var 7) .nil)))) .nil)))) .nil)) (.cons (.ite (.pr .ne (.slt 6 (.x (.pr .mul (.x (.pr .lst (.x (.cst (.str "tree error")) .nil)) (.x (.cst (.int (21))) .nil))) .nil))) (.cons (.ret (.cst (.bl false))) .nil) .nil) (.cons (.par [9, 10] (.x (.pr .tuple (.x (.lc [11] (.nm 11) (.rng 1 (.x (.cst (.int (30))) .nil)) (.cst (.bl true)) (.pr .tup (.x (.var 11) (.x (.pr .add (.x (.pr .sub (.x (.pr .pow (.x (.cst (.int (10))) (.x (.cst (.int (6))) .nil))) (.x (.cst (.int (30))) .nil))) (.slt 11 .nil))) .nil)))) .nil)) (.x (.pr .tuple (.x (.lc [11] (.nm 11) (.rng 1 (.x (.cst (.int (30))) .nil)) (.cst (.bl true)) (.pr .tup (.x (.var 11) (.x (.pr .sub (.x (.pr .pow (.x (.cst (.int (10))) (.x (.cst (.int (6))) .nil))) (.slt 11 .nil))) .nil)))) .nil)) .nil))) (.cons (.asg 12 (.call 18 (.x (.pr .sum (.x (.lc [13, 14] (.tp [13, 14]) (.slt 10) (.cst (.bl true)) (.var 14)) .nil)) (.x (.cst (.int (30))) .nil)))) (.cons (.asg 4 (.pr .lst (.x (.call 12 (.x (.var 9) .nil)) (.x (.call 12 (.x (.var 10) .nil)) .nil)))) (.cons (.ite (.not (.call 17 (.x (.var 4) (.x (.pr .lst (.x (.pr .tuple (.x (.lc [11] (.nm 11) (.rng 1 (.x (.cst (.int (30))) .nil)) (.cst (.bl true)) (.pr .tup (.x (.pr .add (.x (.pr .sub (.x (.pr .pow (.x (.cst (.int (10))) (.x (.cst (.int (6))) .nil))) (.x (.cst (.int (30))) .nil))) (.slt 11 .nil))) (.x (.cst (.int (1))) .nil)))) .nil)) (.x (.pr .mul (.x (.pr .tup (.x (.var 12) .nil)) (.x (.cst (.int (30))) .nil))) .nil))) .nil)))) (.cons (.ret (.cst (.bl false))) .nil) .nil) (.cons (.ret (.or (.pr .gt (.x (.call 14 (.slt 1 (.x (.cst (.int (3))) .nil))) (.x (.cst (.int (0))) .nil))) (.call 30 (.x (.call 22 (.slt 1 (.x (.cst (.int (30))) (.x (.pr .pow (.x (.cst (.int (10))) (.x (.cst (.int (6))) .nil))) .nil)))) .nil)))) .nil))))))))))))))))
def d_law : Def := ⟨1, 15, [], b_law⟩
def h__law_error : Nat → Option D
  | 0 => some (.str "")
  | 1 => some (.str " error")
  | 2 => some (.str "tree error")
  | _ => none
def isB : Nat → Nat → Bool
  | 0, 0 => true
  | 1, 0 => true
  | 1, 1 => true
  | _, _ => false
def S__law_error (q : Nat) : Ss := (.cons (.asg 2 (.pr .lst (.x (.pr .tup (.x (.cst (.str "tree")) (.x (.pr (.isE (isB q 1)) (.slt 1 .nil)) .nil))) .nil))) (.cons (.ret (.pr .add (.x (.pr (.join " ") (.x (.lc [3, 4] (.tpT [3, 4]) (.sltL 2) (.var 4) (.var 3)) .nil)) (.x (.cst (.str " error")) .nil)))) .nil))
def prg : Prg := ⟨[d_is_whole, d_is_tuple_of, d_in_lowest, d_sum_of, d_compared, d_is_tree, d_need_tree, d_branches, d_costs_in, d_even_amounts, d_greatest, d_least_peak, d_levelled, d__law_cup, d__law_roll, d__law_some, d__law_sort, d__law_like, d__law_low, d__law_add, d__law_order, d__law_is_pair, d__law_tree, d__law_way, d__law_branch, d__law_cost, d__law_error, d__law_sum, d__law_less, d__law_are_fair, d__law_right, d_law], fun f k => if f = 26 then h__law_error k else none⟩
-- law is def 31
end P72
end
section
set_option linter.all false
set_option maxRecDepth 100000
set_option maxHeartbeats 4000000
namespace P72M
open P72
open PySem EV
open L2 (Key)
set_option autoImplicit false
theorem run_s (n f : Nat) (es : List E) (d : Def) (h : prg.defs[f]? = some d) : (runs prg (n+1)).1 f es = evD (mkCalls prg n (runs prg n)) d es := by
  show (match prg.defs[f]? with | some d => evD (mkCalls prg n (runs prg n)) d es | none => R.bad) = _
  rw [h]
/-- an int between -/
def whole (v : D) (a b : Int) : Bool := match v with
  | .int i => decide (a ≤ i) && decide (i ≤ b)
  | _ => false
def NoF (v : D) : Prop := (∀ f, v ≠ .fn f) ∧ (∀ s, v ≠ .scr s)
theorem is_whole (n : Nat) (v : D) (a b : Int) (hv : NoF v) : (runs prg (n+1)).1 0 [.d v, .d (.int a), .d (.int b)] = .ok (.d (.bl (whole v a b)), [none, none, none]) := by
  rw [run_s n 0 _ d_is_whole rfl]
  cases v with
  | int i => by_cases h : a ≤ i <;> simp -implicitDefEqProofs [mk_c1, mk_c2, mk_hnd, mk_deep, evD_mk, entE, outE, evSs_nil, evSs_cons, eS_asg, eS_unp, eS_par, eS_setix, eS_app, eS_expr, eS_ite, evS_for, evS_forG, evS_whl, eS_ret, evS.eq_15, evS.eq_16, evS.eq_17, evS.eq_18, evS.eq_19, evX.eq_1, evX.eq_2, evX.eq_3, evX.eq_4, evX.eq_5, eX_pr, eX_not, eX_and, eX_or, eX_chn, eX_ite, eX_call, eX_callv, evX_lc, evX_lc2, evX.eq_16, eX_popAt, eA_nil, eA_slt, eA_x, eR_slt, eR_x, eR_rng, eR_enS, eR_en, eR_zip, fillD, fillE, look, put, wipes, restore, back, slots, wrapF_nx, wrapF_rt, wrapF_exc, bindT, bindNs, itemsOf, keysD, R.bindk, R.bind_exc, R.toS_ok, R.toS_exc, R.ofO_some, isB_ok, isB_exc, SR.seq_nx, SR.seq_rt, SR.seq_exc, SR.seq_bk, SR.seq_ct, SR.fin_nx, SR.fin_rt, SR.fin_exc, E.frz, E.rd, prim, blD, isND, isL, kFin, kCv_fn, kLk_some, kE, kV, kPr, kNot, kBl, kAnd, kOr, kCh3, kCh2, kCh1, kIte, kC3, kC2, kC1, kL3, kL2, kL1, kLb, kLc, kLa, kM2, kM1, kM0, kMt, kLa2, kPa, kAs, kAy, kAx, kS3, kSx, kSr, kSe, kSen, zipD, kSz, kAsg, kUnp, kPar, kSj, kSi, kApp, kEx, kSIte, kFor, kRet, kD, pAdd, pSub, pMul, pFdiv, pMod, pPow, pNeg, pEq, pNe, pLt, pLe, pGt, pGe, pIsin, pNotin, pIsnone, pNotnone, pIsb, pIsnotb, pIx, pSlc, pRev, pLen, pAbs, pInt, pList, pTuple, pSum, pMax2, pMin2, pMaxL, pMinL, pMinT, pAny, pAll, pSorted, pGcd, pDictK, pIsinst, pLrange, pTrange, pTup, pLst, pNewK, pNewT, inst, setE, scalD, scEq, d_is_whole, b_is_whole, whole, h]
  | fn f => exact absurd rfl (hv.1 f)
  | scr f => exact absurd rfl (hv.2 f)
  | _ => simp -implicitDefEqProofs [mk_c1, mk_c2, mk_hnd, mk_deep, evD_mk, entE, outE, evSs_nil, evSs_cons, eS_asg, eS_unp, eS_par, eS_setix, eS_app, eS_expr, eS_ite, evS_for, evS_forG, evS_whl, eS_ret, evS.eq_15, evS.eq_16, evS.eq_17, evS.eq_18, evS.eq_19, evX.eq_1, evX.eq_2, evX.eq_3, evX.eq_4, evX.eq_5, eX_pr, eX_not, eX_and, eX_or, eX_chn, eX_ite, eX_call, eX_callv, evX_lc, evX_lc2, evX.eq_16, eX_popAt, eA_nil, eA_slt, eA_x, eR_slt, eR_x, eR_rng, eR_enS, eR_en, eR_zip, fillD, fillE, look, put, wipes, restore, back, slots, wrapF_nx, wrapF_rt, wrapF_exc, bindT, bindNs, itemsOf, keysD, R.bindk, R.bind_exc, R.toS_ok, R.toS_exc, R.ofO_some, isB_ok, isB_exc, SR.seq_nx, SR.seq_rt, SR.seq_exc, SR.seq_bk, SR.seq_ct, SR.fin_nx, SR.fin_rt, SR.fin_exc, E.frz, E.rd, prim, blD, isND, isL, kFin, kCv_fn, kLk_some, kE, kV, kPr, kNot, kBl, kAnd, kOr, kCh3, kCh2, kCh1, kIte, kC3, kC2, kC1, kL3, kL2, kL1, kLb, kLc, kLa, kM2, kM1, kM0, kMt, kLa2, kPa, kAs, kAy, kAx, kS3, kSx, kSr, kSe, kSen, zipD, kSz, kAsg, kUnp, kPar, kSj, kSi, kApp, kEx, kSIte, kFor, kRet, kD, pAdd, pSub, pMul, pFdiv, pMod, pPow, pNeg, pEq, pNe, pLt, pLe, pGt, pGe, pIsin, pNotin, pIsnone, pNotnone, pIsb, pIsnotb, pIx, pSlc, pRev, pLen, pAbs, pInt, pList, pTuple, pSum, pMax2, pMin2, pMaxL, pMinL, pMinT, pAny, pAll, pSorted, pGcd, pDictK, pIsinst, pLrange, pTrange, pTup, pLst, pNewK, pNewT, inst, setE, scalD, scEq, d_is_whole, b_is_whole, whole]

theorem nof_int (i : Int) : NoF (.int i) := ⟨fun _ h => (by cases h), fun _ h => (by cases h)⟩
/-- a tuple with so many -/
def tupOf (v : D) (a b : Int) : Bool := match v with
  | .tup xs => decide (a ≤ xs.length) && decide (xs.length ≤ b)
  | _ => false
theorem is_tuple_of (n : Nat) (v : D) (a b : Int) (hv : NoF v) : (runs prg (n+1)).1 1 [.d v, .d (.int a), .d (.int b)] = .ok (.d (.bl (tupOf v a b)), [none, none, none]) := by
  rw [run_s n 1 _ d_is_tuple_of rfl]
  cases v with
  | tup i => by_cases h : a ≤ i.length <;> simp -implicitDefEqProofs [mk_c1, mk_c2, mk_hnd, mk_deep, evD_mk, entE, outE, evSs_nil, evSs_cons, eS_asg, eS_unp, eS_par, eS_setix, eS_app, eS_expr, eS_ite, evS_for, evS_forG, evS_whl, eS_ret, evS.eq_15, evS.eq_16, evS.eq_17, evS.eq_18, evS.eq_19, evX.eq_1, evX.eq_2, evX.eq_3, evX.eq_4, evX.eq_5, eX_pr, eX_not, eX_and, eX_or, eX_chn, eX_ite, eX_call, eX_callv, evX_lc, evX_lc2, evX.eq_16, eX_popAt, eA_nil, eA_slt, eA_x, eR_slt, eR_x, eR_rng, eR_enS, eR_en, eR_zip, fillD, fillE, look, put, wipes, restore, back, slots, wrapF_nx, wrapF_rt, wrapF_exc, bindT, bindNs, itemsOf, keysD, R.bindk, R.bind_exc, R.toS_ok, R.toS_exc, R.ofO_some, isB_ok, isB_exc, SR.seq_nx, SR.seq_rt, SR.seq_exc, SR.seq_bk, SR.seq_ct, SR.fin_nx, SR.fin_rt, SR.fin_exc, E.frz, E.rd, prim, blD, isND, isL, kFin, kCv_fn, kLk_some, kE, kV, kPr, kNot, kBl, kAnd, kOr, kCh3, kCh2, kCh1, kIte, kC3, kC2, kC1, kL3, kL2, kL1, kLb, kLc, kLa, kM2, kM1, kM0, kMt, kLa2, kPa, kAs, kAy, kAx, kS3, kSx, kSr, kSe, kSen, zipD, kSz, kAsg, kUnp, kPar, kSj, kSi, kApp, kEx, kSIte, kFor, kRet, kD, pAdd, pSub, pMul, pFdiv, pMod, pPow, pNeg, pEq, pNe, pLt, pLe, pGt, pGe, pIsin, pNotin, pIsnone, pNotnone, pIsb, pIsnotb, pIx, pSlc, pRev, pLen, pAbs, pInt, pList, pTuple, pSum, pMax2, pMin2, pMaxL, pMinL, pMinT, pAny, pAll, pSorted, pGcd, pDictK, pIsinst, pLrange, pTrange, pTup, pLst, pNewK, pNewT, inst, setE, scalD, scEq, d_is_tuple_of, b_is_tuple_of, tupOf, h]
  | fn f => exact absurd rfl (hv.1 f)
  | scr f => exact absurd rfl (hv.2 f)
  | _ => simp -implicitDefEqProofs [mk_c1, mk_c2, mk_hnd, mk_deep, evD_mk, entE, outE, evSs_nil, evSs_cons, eS_asg, eS_unp, eS_par, eS_setix, eS_app, eS_expr, eS_ite, evS_for, evS_forG, evS_whl, eS_ret, evS.eq_15, evS.eq_16, evS.eq_17, evS.eq_18, evS.eq_19, evX.eq_1, evX.eq_2, evX.eq_3, evX.eq_4, evX.eq_5, eX_pr, eX_not, eX_and, eX_or, eX_chn, eX_ite, eX_call, eX_callv, evX_lc, evX_lc2, evX.eq_16, eX_popAt, eA_nil, eA_slt, eA_x, eR_slt, eR_x, eR_rng, eR_enS, eR_en, eR_zip, fillD, fillE, look, put, wipes, restore, back, slots, wrapF_nx, wrapF_rt, wrapF_exc, bindT, bindNs, itemsOf, keysD, R.bindk, R.bind_exc, R.toS_ok, R.toS_exc, R.ofO_some, isB_ok, isB_exc, SR.seq_nx, SR.seq_rt, SR.seq_exc, SR.seq_bk, SR.seq_ct, SR.fin_nx, SR.fin_rt, SR.fin_exc, E.frz, E.rd, prim, blD, isND, isL, kFin, kCv_fn, kLk_some, kE, kV, kPr, kNot, kBl, kAnd, kOr, kCh3, kCh2, kCh1, kIte, kC3, kC2, kC1, kL3, kL2, kL1, kLb, kLc, kLa, kM2, kM1, kM0, kMt, kLa2, kPa, kAs, kAy, kAx, kS3, kSx, kSr, kSe, kSen, zipD, kSz, kAsg, kUnp, kPar, kSj, kSi, kApp, kEx, kSIte, kFor, kRet, kD, pAdd, pSub, pMul, pFdiv, pMod, pPow, pNeg, pEq, pNe, pLt, pLe, pGt, pGe, pIsin, pNotin, pIsnone, pNotnone, pIsb, pIsnotb, pIx, pSlc, pRev, pLen, pAbs, pInt, pList, pTuple, pSum, pMax2, pMin2, pMaxL, pMinL, pMinT, pAny, pAll, pSorted, pGcd, pDictK, pIsinst, pLrange, pTrange, pTup, pLst, pNewK, pNewT, inst, setE, scalD, scEq, d_is_tuple_of, b_is_tuple_of, tupOf]
theorem ix0 (x : D) (xs : List D) : ixD (x :: xs) 0 = some x := by
  simp [ixD, L2.ixN]
theorem ix1 (x y : D) (xs : List D) : ixD (x :: y :: xs) 1 = some y := by
  have : (1 : Int) < xs.length + 1 + 1 := by omega
  simp [ixD, L2.ixN, this]
theorem ix2 (x y z : D) (xs : List D) : ixD (x :: y :: z :: xs) 2 = some z := by
  have : (2 : Int) < xs.length + 1 + 1 + 1 := by omega
  simp [ixD, L2.ixN, this]
theorem ix3 (x y z w : D) (xs : List D) : ixD (x :: y :: z :: w :: xs) 3 = some w := by
  have : (3 : Int) < xs.length + 1 + 1 + 1 + 1 := by omega
  simp [ixD, L2.ixN, this]
theorem ixI (F : List Int) (a : Int) (h : 0 ≤ a) (h2 : a < F.length) : ixD (F.map .int) a = some (.int (F.getD a.toNat 0)) := by
  have : a.toNat < F.length := by omega
  simp [ixD, L2.ixN, h, h2, this]
theorem asB_bl (L : List Bool) : asB (L.map .bl) = some L := by
  induction L with
  | nil => rfl
  | cons a r ih => simp [asB, ih]
theorem enumL_mem (x : D) : ∀ (L : List D) (k : Nat), x ∈ enumL k L → ∃ (i : Nat) (y : D), y ∈ L ∧ x = .tup [.int i, y] := by
  intro L
  induction L with
  | nil => intro k h; simp [enumL] at h
  | cons a r ih =>
    intro k h
    rcases List.mem_cons.1 h with e | e
    · exact ⟨k, a, by simp, e⟩
    · obtain ⟨i, y, hy, e⟩ := ih _ e
      exact ⟨i, y, by simp [hy], e⟩
theorem cut1 (x : D) (xs : List D) : cut (x :: xs) (some 1) none = xs := by
  have : HT.sIx (xs.length + 1) 0 (some 1) = 1 := by simp [HT.sIx]
  have h2 : HT.sIx (xs.length + 1) (xs.length + 1) none = xs.length + 1 := by simp [HT.sIx]
  simp [cut, this, h2]
theorem few_le {n : Nat} (h : n ≤ 1000000) : few n = true := decide_eq_true h
/-- plain values, so deep -/
inductive Pln : Nat → D → Prop where
  | non (n : Nat) : Pln n .non
  | bl (n : Nat) (b : Bool) : Pln n (.bl b)
  | int (n : Nat) (i : Int) : Pln n (.int i)
  | str (n : Nat) (s : Str) : Pln n (.str s)
  | tup (n : Nat) (xs : List D) (h : ∀ x ∈ xs, Pln n x) : Pln (n + 1) (.tup xs)
  | lst (n : Nat) (xs : List D) (h : ∀ x ∈ xs, Pln n x) : Pln (n + 1) (.lst xs)
theorem Pln.nof {n : Nat} {v : D} (h : Pln n v) : NoF v := by
  cases h <;> exact ⟨fun _ h => (by cases h), fun _ h => (by cases h)⟩
def sortN : D → Int
  | .non => 0 | .bl _ => 1 | .int _ => 2 | .str _ => 3 | .tup _ => 4 | .lst _ => 5 | _ => 6
theorem law_sort (n k : Nat) (v : D) (hv : Pln k v) : (runs prg (n+1)).1 16 [.d v] = .ok (.d (.int (sortN v)), [none]) := by
  rw [run_s _ 16 _ d__law_sort rfl]
  cases hv <;> simp? only [d__law_sort, b__law_sort, sortN]
theorem bits_le {i : Int} {n : Nat} (h0 : 0 ≤ i) (h : i < 2 ^ 62) (hn : 62 ≤ n) : bits i n = true := by
  unfold bits
  refine decide_eq_true ?_
  have : 2 ^ 62 ≤ 2 ^ n := Nat.pow_le_pow_right (by omega) hn
  omega
theorem roll (n : Nat) (c0 c1 m : Int) (hm : 0 < m) (hm2 : m < 2 ^ 62) : ∃ v c0' c1', 0 ≤ v ∧ v < m ∧ (runs prg (n+1)).1 14 [.l [.int c0, .int c1], .d (.int m)] = .ok (.d (.int v), [some (.l [.int c0', .int c1']), none]) := by
  rw [run_s n 14 _ d__law_roll rfl]
  have hb : bits m 8000 = true := bits_le (by omega) hm2 (by omega)
  have i2 : ∀ (a b : D), L2.ixN [a, b].length 0 = some 0 := fun _ _ => rfl
  have i3 : ∀ (a b : D), L2.ixN [a, b].length 1 = some 1 := fun _ _ => rfl
  by_cases h : 0 < c0
  · refine ⟨c0 % m, c0 / m, c1, Int.emod_nonneg _ (by omega), Int.emod_lt_of_pos _ hm, ?_⟩
    have h1 : L2.ixN 2 0 = some 0 := rfl
    simp? only [d__law_roll, b__law_roll, ix0, ix1, h, hm, hb, h1, List.set_cons_zero]
  · have h1 : mulOk c1 30307 = true := by
      unfold mulOk
      rw [show bits 30307 63 = true from by decide +kernel]
      simp
    have h2 : mulOk ((c1 * 30307 + 8707) % 2147483543) ((c1 * 30307 + 8707) % 2147483543 + 277) = true := by
      unfold mulOk
      rw [bits_le (i := (c1 * 30307 + 8707) % 2147483543) (n := 63) (Int.emod_nonneg _ (by omega)) (by omega) (by omega)]
      rfl
    have h3 : bits 863 8000 = true := bits_le (by omega) (by omega) (by omega)
    refine ⟨((c1 * 30307 + 8707) % 2147483543 * ((c1 * 30307 + 8707) % 2147483543 + 277) % 2147483587) / 863 % m, c0, (c1 * 30307 + 8707) % 2147483543, Int.emod_nonneg _ (by omega), Int.emod_lt_of_pos _ hm, ?_⟩
    have h4 : L2.ixN 2 1 = some 1 := rfl
    simp? only [d__law_roll, b__law_roll, ix0, ix1, h, hm, hb, h4, List.set_cons_zero, List.set_cons_succ, h1, h2, h3]
/-- a cup -/
def Cup (e : E) : Prop := ∃ c0 c1 : Int, e = .l [.int c0, .int c1]
theorem rollC (n : Nat) {c : E} (hc : Cup c) (m : Int) (hm : 0 < m) (hm2 : m < 2 ^ 62) : ∃ v c', Cup c' ∧ 0 ≤ v ∧ v < m ∧ (runs prg (n+1)).1 14 [c, .d (.int m)] = .ok (.d (.int v), [some c', none]) := by
  obtain ⟨c0, c1, rfl⟩ := hc
  obtain ⟨v, a, b, h1, h2, h3⟩ := roll n c0 c1 m hm hm2
  exact ⟨v, _, ⟨a, b, rfl⟩, h1, h2, h3⟩
theorem ixD_mem (xs : List D) (v : Int) (h0 : 0 ≤ v) (h : v < xs.length) : ∃ x ∈ xs, ixD xs v = some x := by
  have : v.toNat < xs.length := by omega
  refine ⟨xs[v.toNat], List.getElem_mem _, ?_⟩
  simp [ixD, L2.ixN, h0, h, this]
theorem someC (n : Nat) {c : E} (hc : Cup c) (xs : List D) (hne : 0 < xs.length) (hl : xs.length < 2 ^ 62) : ∃ x ∈ xs, ∃ c', Cup c' ∧ (runs prg (n+2)).1 15 [c, .l xs] = .ok (.d x, [some c', none]) ∧ (runs prg (n+2)).1 15 [c, .d (.lst xs)] = .ok (.d x, [some c', none]) := by
  obtain ⟨v, c', hc', h0, h1, e⟩ := rollC n hc xs.length (by omega) (by omega)
  obtain ⟨x, hx, ex⟩ := ixD_mem xs v h0 h1
  refine ⟨x, hx, c', hc', ?_, ?_⟩
  all_goals
    rw [run_s (n+1) 15 _ d__law_some rfl]
    obtain ⟨a, b, rfl⟩ := hc
    simp? only [d__law_some, b__law_some, e, ex]
/-! like -/
theorem zipL_self {x : D} : ∀ {xs : List D}, x ∈ zipL xs xs → ∃ y ∈ xs, x = .tup [y, y] := by
  intro xs
  induction xs with
  | nil => intro h; simp [zipL] at h
  | cons a r ih =>
    intro h
    rcases List.mem_cons.1 h with e | e
    · exact ⟨a, by simp, e⟩
    · obtain ⟨y, hy, e2⟩ := ih e
      exact ⟨y, List.mem_cons_of_mem _ hy, e2⟩
theorem fm_none (xs : List D) : xs.filterMap (fun _ => (none : Option D)) = [] := by
  induction xs with
  | nil => rfl
  | cons a r ih => rw [List.filterMap_cons]; exact ih
theorem i45 (x : Int) : inD (.int x) [.int 4, .int 5] = some (4 == x || (5 == x || false)) := rfl
theorem eqD_non : eqD .non .non = some true := rfl
theorem like_flat (n k : Nat) (v w : D) (hv : Pln k v) (h : sortN v ≠ 4 ∧ sortN v ≠ 5) (he : eqD v v = some true) : (runs prg (n+2)).1 17 [.d v, .d v] = .ok (.d (.bl true), [none, none]) := by
  have hs := law_sort n _ v hv
  rw [show n + 2 = (n + 1) + 1 by omega, run_s _ 17 _ d__law_like rfl]
  cases hv with
  | tup => simp [sortN] at h
  | lst => simp [sortN] at h
  | _ => simp? only [d__law_like, b__law_like, hs, sortN, i45, beq_self_eq_true, he]
theorem like_refl : ∀ (k n : Nat) (v : D), Pln k v → (runs prg (n+k+2)).1 17 [.d v, .d v] = .ok (.d (.bl true), [none, none]) := by
  intro k
  induction k with
  | zero =>
    intro n v hv
    refine like_flat n 0 v v hv ?_ ?_
    · cases hv <;> simp [sortN]
    · cases hv <;> simp [eqD_non, eqD_bl, eqD_int, eqD_str]
  | succ k ih =>
    intro n v hv
    have hs := law_sort (n+k+1) _ v hv
    cases hv with
    | non => exact like_flat (n+k+1) _ _ .non (Pln.non (k+1)) (by simp [sortN]) (by simp [eqD_non])
    | bl _ b => exact like_flat (n+k+1) _ _ .non (Pln.bl (k+1) b) (by simp [sortN]) (by simp [eqD_bl])
    | int _ b => exact like_flat (n+k+1) _ _ .non (Pln.int (k+1) b) (by simp [sortN]) (by simp [eqD_int])
    | str _ b => exact like_flat (n+k+1) _ _ .non (Pln.str (k+1) b) (by simp [sortN]) (by simp [eqD_str])
    | tup _ xs hx =>
      rw [show n + (k + 1) + 2 = (n + k + 2) + 1 by omega, run_s _ 17 _ d__law_like rfl]
      simp? only [d__law_like, b__law_like, hs, sortN, i45, beq_self_eq_true]
      rw [lcL_pure (g := fun _ => none)]
      · rw [fm_none]
        simp? only []
      · intro x hx2
        obtain ⟨y, hy, rfl⟩ := zipL_self hx2
        have c := ih n y (hx y hy)
        simp? only [lcG, c]
    | lst _ xs hx =>
      rw [show n + (k + 1) + 2 = (n + k + 2) + 1 by omega, run_s _ 17 _ d__law_like rfl]
      simp? only [d__law_like, b__law_like, hs, sortN, i45, beq_self_eq_true]
      rw [lcL_pure (g := fun _ => none)]
      · rw [fm_none]
        simp? only []
      · intro x hx2
        obtain ⟨y, hy, rfl⟩ := zipL_self hx2
        have c := ih n y (hx y hy)
        simp? only [lcG, c]
theorem Pln.mono {n m : Nat} {v : D} (h : Pln n v) (hm : n ≤ m) : Pln m v := by
  induction h generalizing m with
  | non => exact .non _
  | bl => exact .bl _ _
  | int => exact .int _ _
  | str => exact .str _ _
  | tup n xs hx ih =>
    obtain ⟨m, rfl⟩ : ∃ q, m = q + 1 := ⟨m - 1, by omega⟩
    exact .tup _ _ (fun x hx => ih x hx (by omega))
  | lst n xs hx ih =>
    obtain ⟨m, rfl⟩ : ∃ q, m = q + 1 := ⟨m - 1, by omega⟩
    exact .lst _ _ (fun x hx => ih x hx (by omega))
theorem Pln.tup4 {n : Nat} {a b c d : D} (ha : Pln n a) (hb : Pln n b) (hc : Pln n c) (hd : Pln n d) : Pln (n+1) (.tup [a, b, c, d]) := by
  refine .tup _ _ ?_
  intro x hx
  simp at hx
  rcases hx with e | e | e | e <;> subst e <;> assumption
theorem Pln.tup5 {n : Nat} {a b c d f : D} (ha : Pln n a) (hb : Pln n b) (hc : Pln n c) (hd : Pln n d) (hf : Pln n f) : Pln (n+1) (.tup [a, b, c, d, f]) := by
  refine .tup _ _ ?_
  intro x hx
  simp at hx
  rcases hx with e | e | e | e | e <;> subst e <;> assumption
theorem Pln.tup3 {n : Nat} {a b c : D} (ha : Pln n a) (hb : Pln n b) (hc : Pln n c) : Pln (n+1) (.tup [a, b, c]) := by
  refine .tup _ _ ?_
  intro x hx
  simp at hx
  rcases hx with e | e | e <;> subst e <;> assumption
theorem Pln.tup2 {n : Nat} {a b : D} (ha : Pln n a) (hb : Pln n b) : Pln (n+1) (.tup [a, b]) := by
  refine .tup _ _ ?_
  intro x hx
  simp at hx
  rcases hx with e | e <;> subst e <;> assumption
theorem Pln.lst2 {n : Nat} {a b : D} (ha : Pln n a) (hb : Pln n b) : Pln (n+1) (.lst [a, b]) := by
  refine .lst _ _ ?_
  intro x hx
  simp at hx
  rcases hx with e | e <;> subst e <;> assumption
theorem Pln.lst4 {n : Nat} {a b c d : D} (ha : Pln n a) (hb : Pln n b) (hc : Pln n c) (hd : Pln n d) : Pln (n+1) (.lst [a, b, c, d]) := by
  refine .lst _ _ ?_
  intro x hx
  simp at hx
  rcases hx with e | e | e | e <;> subst e <;> assumption
theorem frz_call (p : Prg) (n f : Nat) (d : Def) (es es' : List E) (h : p.defs[f]? = some d) (he : entE d.io 0 es = entE d.io 0 es') (hl : es.length = es'.length) : (runs p (n+1)).1 f es = (runs p (n+1)).1 f es' := by
  show (match p.defs[f]? with | some d => evD (mkCalls p n (runs p n)) d es | none => R.bad) = (match p.defs[f]? with | some d => evD (mkCalls p n (runs p n)) d es' | none => R.bad)
  rw [h]
  simp only [evD, enter, he, hl]
theorem runs_c2 (p : Prg) (n : Nat) : (runs p (n+2)).2.2 = (runs p n).1 := rfl
def flt (o : Option E) : Option E := match o with
  | some (.d x) => some (.d x)
  | _ => none
theorem tried_exc (c : Calls) (f : Nat) (e : X) (ρ : EV.Env) (k : Nat) (d : D) (h1 : c.deep = true) (h2 : evX { c with c1 := c.c2 } e (ρ.map flt) = .exc k) (h3 : c.hnd f (k+1) = some d) : evX c (.tried f e) ρ = .ok (.d d, ρ) := by
  obtain ⟨c1, hnd, c2, deep⟩ := c
  simp only at h1
  subst h1
  rw [evX.eq_19]
  simp only [if_true]
  split
  · rename_i heq; exact absurd (h2.symm.trans heq) (by simp)
  · rename_i heq
    have := h2.symm.trans heq
    injection this with this
    subst this
    simp only at h3
    simp only [h3]
  · rename_i h4 h5
    exact absurd h2 (h5 k)
theorem cup (n : Nat) (ns : List Int) (hl : ns.length ≤ 63) : ∃ c, Cup c ∧ (runs prg (n+1)).1 13 [.d (.scr ns)] = .ok (c, [none]) := by
  rw [run_s _ 13 _ d__law_cup rfl]
  have hf : few (ns.length + 1) = true := few_le (by omega)
  have h0 : ∃ z, ixD (ns.map .int ++ [.int 0]) 0 = some (.int z) := by
    cases ns with
    | nil => exact ⟨0, rfl⟩
    | cons a r => exact ⟨a, by rw [List.map_cons, List.cons_append, ix0]⟩
  obtain ⟨z, hz⟩ := h0
  have p1 : pPow [.int 10, .int 18] = some (.d (.int 1000000000000000000)) := by kernel_rfl
  have b1 : bits 103 8000 = true := by decide +kernel
  obtain ⟨y, hy⟩ : ∃ y, y = (if z < 0 then -z else z) := ⟨_, rfl⟩
  have b2 : mulOk y 349 = true := by
    unfold mulOk
    rw [show bits 349 63 = true by decide +kernel]
    simp
  by_cases h : 1000000000000000000 ≤ y
  · refine ⟨.l [.int (y / 103), .int ((y * 349 + 5003) % 2014129333 + 199)], ⟨_, _, rfl⟩, ?_⟩
    simp_all? only [d__law_cup, b__law_cup, pList, pAdd, pLst, hf, pIx, hz, pAbs, ← hy, p1, pGe, h, pFdiv, b1, pMul, b2, pInt, pMod]
  · refine ⟨.l [.int 0, .int ((y * 349 + 5003) % 2014129333 + 199)], ⟨_, _, rfl⟩, ?_⟩
    simp_all? only [d__law_cup, b__law_cup, pList, pAdd, pLst, hf, pIx, hz, pAbs, ← hy, p1, pGe, h, pFdiv, b1, pMul, b2, pInt, pMod]
theorem some2 (n : Nat) (c : E) (hc : Cup c) (a b : Int) : ∃ (z : Int) (c' : E), Cup c' ∧ (z = a ∨ z = b) ∧ (runs prg (n+2)).1 15 [c, .l [.int a, .int b]] = .ok (.d (.int z), [some c', none]) := by
  obtain ⟨x, hx, c', hc', e, _⟩ := someC n hc [.int a, .int b] (by simp) (by simp)
  simp only [List.mem_cons, List.not_mem_nil, or_false] at hx
  rcases hx with h | h <;> subst h
  · exact ⟨a, c', hc', Or.inl rfl, e⟩
  · exact ⟨b, c', hc', Or.inr rfl, e⟩

end P72M
end
section
set_option linter.all false
set_option maxRecDepth 100000
set_option maxHeartbeats 4000000
namespace P72M
open P72
open PySem EV
open L2 (Key)
open EU
set_option autoImplicit false
theorem in_lowest (n : Nat) (t b : Int) (hb : 0 < b) (hs : b.natAbs < 2 ^ 500) : (runs prg (n+1)).1 2 [.d (.int t), .d (.int b)] = .ok (.d (qD (lowP t b)), [none, none]) := by
  have h1 : ¬ b < 0 := by omega
  have h2 := gcd_pos t hb
  have h3 : bits ((Nat.gcd t.natAbs b.natAbs : Nat) : Int) 8000 = true := bits_of (n := 500) (by have := gcd_le t hb; omega) (by omega)
  have h4 := low_num t hb
  have h5 := low_den t hb
  rw [run_s n 2 _ d_in_lowest rfl]
  simp? only [d_in_lowest, b_in_lowest, h1, h2, h3, h4, h5, qD]
theorem sum_of (n : Nat) {q r : Rat} (hq : Sm q) (hr : Sm r) : (runs prg (n+2)).1 3 [.d (qD q), .d (qD r)] = .ok (.d (qD (q + r)), [none, none]) := by
  have m1 : mulOk q.num (r.den : Int) = true := mulOk_of hq.1 hr.db (by omega) (by omega)
  have m2 : mulOk r.num (q.den : Int) = true := mulOk_of hr.1 hq.db (by omega) (by omega)
  have m3 : mulOk (q.den : Int) (r.den : Int) = true := mulOk_of hq.db hr.db (by omega) (by omega)
  have e := in_lowest n (q.num * (r.den : Int) + r.num * (q.den : Int)) ((q.den : Int) * (r.den : Int)) (Int.mul_pos (den_pos q) (den_pos r)) (hq.bot hr)
  rw [add_low] at e
  rw [run_s (n+1) 3 _ d_sum_of rfl]
  simp only [qD] at *
  simp? only [d_sum_of, b_sum_of, ix0, ix1, m1, m2, m3, e]
theorem compared (n : Nat) {q r : Rat} (hq : Sm q) (hr : Sm r) : (runs prg (n+1)).1 4 [.d (qD q), .d (qD r)] = .ok (.d (.int (q.num * (r.den : Int) - r.num * (q.den : Int))), [none, none]) := by
  have m1 : mulOk q.num (r.den : Int) = true := mulOk_of hq.1 hr.db (by omega) (by omega)
  have m2 : mulOk r.num (q.den : Int) = true := mulOk_of hr.1 hq.db (by omega) (by omega)
  rw [run_s n 4 _ d_compared rfl]
  simp only [qD]
  simp? only [d_compared, b_compared, ix0, ix1, m1, m2]
abbrev lowB : Ss := fbS (hdS 1 b__law_low)
theorem low_end (n : Nat) (t b : Int) (hb : 0 < b) (hs : b.natAbs < 2 ^ 501) (g x : Int) (hg : g = ((Nat.gcd t.natAbs b.natAbs : Nat) : Int)) (o5 : Option E) : ∃ ρ, fB (mkCalls prg n (runs prg n)) (.nm 4) lowB (.int x) [some (.d (.int t)), some (.d (.int b)), some (.d (.int g)), some (.d (.int 0)), some (.d (.int x)), o5] = .rt (.d (qD (lowP t b))) (some (.d (.int t)) :: some (.d (.int b)) :: ρ) := by
  have h2 := gcd_pos t hb
  have h3 : bits ((Nat.gcd t.natAbs b.natAbs : Nat) : Int) 8000 = true := bits_of (n := 501) (by have := gcd_le t hb; omega) (by omega)
  have h4 := low_num t hb
  have h5 := low_den t hb
  rw [← hg] at h2 h3 h4 h5
  refine ⟨[some (.d (.int g)), some (.d (.int 0)), some (.d (.int x)), some (.d (.int g))], ?_⟩
  simp? only [fB, lowB, fbS, hdS, b__law_low, hb, h2, h3, h4, h5, qD]
theorem low_step (n : Nat) (t b a c x : Int) (hc : 0 < c) (o4 o5 : Option E) : fB (mkCalls prg n (runs prg n)) (.nm 4) lowB (.int x) [some (.d (.int t)), some (.d (.int b)), some (.d (.int a)), some (.d (.int c)), o4, o5] = .nx [some (.d (.int t)), some (.d (.int b)), some (.d (.int c)), some (.d (.int (a % c))), some (.d (.int x)), o5] := by
  have h1 : (c == 0) = false := by simp; omega
  simp? only [fB, lowB, fbS, hdS, b__law_low, h1, hc]
theorem low_loop (n : Nat) (t b : Int) (hb : 0 < b) (hs : b.natAbs < 2 ^ 501) : ∀ (k : Nat) (a c lo : Int) (m : Nat) (o4 o5 : Option E), 0 ≤ a → 0 ≤ c → c < (2 ^ k : Nat) → ((Nat.gcd a.natAbs c.natAbs : Nat) : Int) = ((Nat.gcd t.natAbs b.natAbs : Nat) : Int) → 2 * k < m → ∃ ρ, forL (fB (mkCalls prg n (runs prg n)) (.nm 4) lowB) (rangeL lo m) [some (.d (.int t)), some (.d (.int b)), some (.d (.int a)), some (.d (.int c)), o4, o5] = .rt (.d (qD (lowP t b))) (some (.d (.int t)) :: some (.d (.int b)) :: ρ) := by
  intro k
  induction k with
  | zero =>
    intro a c lo m o4 o5 ha hc hk hg hm
    have : c = 0 := by simp at hk; omega
    subst this
    obtain ⟨m, rfl⟩ : ∃ q, m = q + 1 := ⟨m - 1, by omega⟩
    obtain ⟨ρ, e⟩ := low_end n t b hb hs a lo (by rw [← hg]; simp; omega) o5
    refine ⟨ρ, ?_⟩
    rw [rangeL, forL_cons]
    have e2 : fB (mkCalls prg n (runs prg n)) (.nm 4) lowB (.int lo) [some (.d (.int t)), some (.d (.int b)), some (.d (.int a)), some (.d (.int 0)), o4, o5] = fB (mkCalls prg n (runs prg n)) (.nm 4) lowB (.int lo) [some (.d (.int t)), some (.d (.int b)), some (.d (.int a)), some (.d (.int 0)), some (.d (.int lo)), o5] := rfl
    rw [e2, e, SR.lp_rt]
  | succ k ih =>
    intro a c lo m o4 o5 ha hc hk hg hm
    by_cases h0 : c = 0
    · subst h0
      obtain ⟨m, rfl⟩ : ∃ q, m = q + 1 := ⟨m - 1, by omega⟩
      obtain ⟨ρ, e⟩ := low_end n t b hb hs a lo (by rw [← hg]; simp; omega) o5
      refine ⟨ρ, ?_⟩
      rw [rangeL, forL_cons]
      have e2 : fB (mkCalls prg n (runs prg n)) (.nm 4) lowB (.int lo) [some (.d (.int t)), some (.d (.int b)), some (.d (.int a)), some (.d (.int 0)), o4, o5] = fB (mkCalls prg n (runs prg n)) (.nm 4) lowB (.int lo) [some (.d (.int t)), some (.d (.int b)), some (.d (.int a)), some (.d (.int 0)), some (.d (.int lo)), o5] := rfl
      rw [e2, e, SR.lp_rt]
    · have hc2 : 0 < c := by omega
      have hr0 := Int.emod_nonneg a (by omega : c ≠ 0)
      have hr1 := Int.emod_lt_of_pos a hc2
      have hgs : ((Nat.gcd c.natAbs (a % c).natAbs : Nat) : Int) = ((Nat.gcd t.natAbs b.natAbs : Nat) : Int) := by
        rw [← hg]
        rw [emod_natAbs ha hc, Nat.gcd_comm, ← Nat.gcd_rec, Nat.gcd_comm]
      obtain ⟨m, rfl⟩ : ∃ q, m = q + 2 := ⟨m - 2, by omega⟩
      rw [rangeL, forL_nx (low_step n t b a c lo hc2 o4 o5)]
      by_cases h1 : a % c = 0
      · rw [h1] at hgs ⊢
        obtain ⟨ρ, e⟩ := low_end n t b hb hs c (lo + 1) (by rw [← hgs]; simp; omega) o5
        refine ⟨ρ, ?_⟩
        rw [rangeL, forL_cons]
        have e2 : fB (mkCalls prg n (runs prg n)) (.nm 4) lowB (.int (lo + 1)) [some (.d (.int t)), some (.d (.int b)), some (.d (.int c)), some (.d (.int 0)), some (.d (.int lo)), o5] = fB (mkCalls prg n (runs prg n)) (.nm 4) lowB (.int (lo + 1)) [some (.d (.int t)), some (.d (.int b)), some (.d (.int c)), some (.d (.int 0)), some (.d (.int (lo + 1))), o5] := rfl
        rw [e2, e, SR.lp_rt]
      · have hr2 : 0 < a % c := by omega
        have hs0 := Int.emod_nonneg c (by omega : a % c ≠ 0)
        have hs1 := Int.emod_lt_of_pos c hr2
        have hhalf : 2 * (c % (a % c)) < c := by
          have hd := Int.emod_add_mul_ediv c (a % c)
          have hq : 1 ≤ c / (a % c) := by
            have := Int.ediv_le_ediv hr2 (Int.le_of_lt hr1)
            rw [Int.ediv_self (by omega)] at this
            exact this
          have hm2 : (a % c) * 1 ≤ (a % c) * (c / (a % c)) := Int.mul_le_mul_of_nonneg_left hq (by omega)
          omega
        have hgs2 : ((Nat.gcd (a % c).natAbs (c % (a % c)).natAbs : Nat) : Int) = ((Nat.gcd t.natAbs b.natAbs : Nat) : Int) := by
          rw [← hgs]
          rw [emod_natAbs hc hr0, Nat.gcd_comm, ← Nat.gcd_rec, Nat.gcd_comm]
        rw [rangeL, forL_nx (low_step n t b c (a % c) (lo + 1) hr2 (some (.d (.int lo))) o5)]
        exact ih (a % c) (c % (a % c)) (lo + 1 + 1) m _ _ (by omega) (by omega) (by rw [Nat.pow_succ] at hk; omega) hgs2 (by omega)
theorem law_low (n : Nat) (t b : Int) (hb : 0 < b) (hs : b.natAbs < 2 ^ 501) : (runs prg (n+1)).1 18 [.d (.int t), .d (.int b)] = .ok (.d (qD (lowP t b)), [none, none]) := by
  rw [run_s n 18 _ d__law_low rfl]
  have r1 : rngL 1 [.int 3000] = some (rangeL 0 3000) := by
    have s : small 3000 = true := small_of (by omega) (by omega)
    have f : few 3000 = true := few_leU (by omega)
    simp -implicitDefEqProofs only [rngL, s, f, Int.reduceToNat, Bool.and_self, if_true]
  have hb2 : ¬ b < 0 := by omega
  obtain ⟨a, hae⟩ : ∃ a, a = (if t < 0 then -t else t) := ⟨_, rfl⟩
  have ha : 0 ≤ a := by rw [hae]; split <;> omega
  have ha2 : a.natAbs = t.natAbs := by rw [hae]; split <;> omega
  obtain ⟨ρ, e⟩ := low_loop n t b hb hs 501 a b 0 3000 none none ha (by omega) (by omega) (by rw [ha2]) (by omega)
  simp only [lowB, fbS, hdS, b__law_low] at e
  simp? only [d__law_low, b__law_low, ← hae, hb2, r1, e]
theorem law_add (n : Nat) {q r : Rat} (hq : Sm q) (hr : Sm r) : (runs prg (n+2)).1 19 [.d (qD q), .d (qD r)] = .ok (.d (qD (q + r)), [none, none]) := by
  have m1 : mulOk q.num (r.den : Int) = true := mulOk_of hq.1 hr.db (by omega) (by omega)
  have m2 : mulOk r.num (q.den : Int) = true := mulOk_of hr.1 hq.db (by omega) (by omega)
  have m3 : mulOk (q.den : Int) (r.den : Int) = true := mulOk_of hq.db hr.db (by omega) (by omega)
  have e := law_low n (q.num * (r.den : Int) + r.num * (q.den : Int)) ((q.den : Int) * (r.den : Int)) (Int.mul_pos (den_pos q) (den_pos r)) (Nat.lt_of_lt_of_le (hq.bot hr) (Nat.pow_le_pow_right (by omega) (by omega)))
  rw [add_low] at e
  rw [run_s (n+1) 19 _ d__law_add rfl]
  simp only [qD] at *
  simp? only [d__law_add, b__law_add, ix0, ix1, m1, m2, m3, e]
theorem law_less (n : Nat) {q r : Rat} (hq : Sm q) (hr : Sm r) : (runs prg (n+1)).1 28 [.d (qD q), .d (qD r)] = .ok (.d (.bl (decide (q < r))), [none, none]) := by
  have m1 : mulOk q.num (r.den : Int) = true := mulOk_of hq.1 hr.db (by omega) (by omega)
  have m2 : mulOk r.num (q.den : Int) = true := mulOk_of hr.1 hq.db (by omega) (by omega)
  have h : decide (q.num * (r.den : Int) < r.num * (q.den : Int)) = decide (q < r) := by rw [decide_eq_decide, Rat.lt_iff]
  rw [run_s n 28 _ d__law_less rfl]
  simp only [qD]
  simp? only [d__law_less, b__law_less, ix0, ix1, m1, m2, h]
/-- the greatest of some -/
def maxQ (a : Rat) (L : List Rat) : Rat := L.foldl (fun m x => if m < x then x else m) a
theorem maxQ_spec : ∀ (L : List Rat) (a : Rat), maxQ a L ∈ a :: L ∧ ∀ x ∈ a :: L, x ≤ maxQ a L := by
  intro L
  induction L with
  | nil => intro a; exact ⟨by simp [maxQ], fun x hx => by simp at hx; rw [hx]; exact Rat.le_refl⟩
  | cons b r ih =>
    intro a
    obtain ⟨h1, h2⟩ := ih (if a < b then b else a)
    have e : maxQ a (b :: r) = maxQ (if a < b then b else a) r := rfl
    rw [e]
    refine ⟨?_, fun x hx => ?_⟩
    · rcases List.mem_cons.1 h1 with h | h
      · rw [h]; split <;> simp
      · exact List.mem_cons_of_mem _ (List.mem_cons_of_mem _ h)
    · have h3 := h2 _ (List.mem_cons_self)
      rcases List.mem_cons.1 hx with h | h
      · subst h
        by_cases hc : x < b
        · rw [if_pos hc] at h3 ⊢; grind
        · rw [if_neg hc] at h3 ⊢; exact h3
      · rcases List.mem_cons.1 h with h | h
        · subst h
          by_cases hc : a < x
          · rw [if_pos hc] at h3 ⊢; exact h3
          · rw [if_neg hc] at h3 ⊢; grind
        · exact h2 x (List.mem_cons_of_mem _ h)
theorem grt_loop (n : Nat) (e0 : Option E) : ∀ (L : List Rat) (a : Rat) (o2 : Option E), Sm a → (∀ q ∈ L, Sm q) → ∃ o', forL (fB (mkCalls prg (n+1) (runs prg (n+1))) (.nm 2) (fbS (hdS 1 b_greatest))) (L.map qD) [e0, some (.d (qD a)), o2] = .nx [e0, some (.d (qD (maxQ a L))), o'] := by
  intro L
  induction L with
  | nil => intro a o2 _ _; exact ⟨o2, rfl⟩
  | cons b r ih =>
    intro a o2 ha hL
    have hb := hL b (by simp)
    have e1 := compared n hb ha
    obtain ⟨o', e2⟩ := ih (if a < b then b else a) (some (.d (qD b))) (by split <;> assumption) (fun q hq => hL q (List.mem_cons_of_mem _ hq))
    refine ⟨o', ?_⟩
    have e3 : maxQ a (b :: r) = maxQ (if a < b then b else a) r := rfl
    rw [List.map_cons, forL_cons, e3, ← e2]
    have hc := cmp_pos b a
    by_cases h : a < b
    · have h1 : (0 : Int) < b.num * (a.den : Int) - a.num * (b.den : Int) := hc.2 h
      rw [if_pos h]
      simp only [qD] at e1 ⊢
      simp? only [fB, fbS, hdS, b_greatest, e1, h1, SR.lp_nx]
    · have h1 : ¬ (0 : Int) < b.num * (a.den : Int) - a.num * (b.den : Int) := fun z => h (hc.1 z)
      rw [if_neg h]
      simp only [qD] at e1 ⊢
      simp? only [fB, fbS, hdS, b_greatest, e1, h1, SR.lp_nx]
theorem greatest (n : Nat) (a : Rat) (L : List Rat) (hL : ∀ q ∈ a :: L, Sm q) : (runs prg (n+2)).1 10 [.d (.lst ((a :: L).map qD))] = .ok (.d (qD (maxQ a L)), [none]) := by
  obtain ⟨o', e⟩ := grt_loop n none (a :: L) a none (hL a (by simp)) hL
  have e3 : maxQ a (a :: L) = maxQ a L := by
    show maxQ (if a < a then a else a) L = _
    split <;> rfl
  rw [e3] at e
  rw [run_s (n+1) 10 _ d_greatest rfl]
  simp only [fbS, hdS, b_greatest, List.map_cons] at e
  simp? only [d_greatest, b_greatest, ix0]
  have e4 := grt_loop n (some (.d (.lst (qD a :: L.map qD)))) (a :: L) a none (hL a (by simp)) hL
  obtain ⟨o2, e4⟩ := e4
  rw [e3] at e4
  simp only [fbS, hdS, b_greatest, List.map_cons] at e4
  simp? only [e4]

end P72M
end
section
set_option linter.all false
set_option maxRecDepth 100000
namespace P72M
open P72
open PySem EV EU
set_option autoImplicit false
/-! trees: pairs of the place before, and a cost -/
def bf (T : List (Int × Int)) (x : Int) : Int := (T.getD x.toNat (0, 0)).1
def cs (T : List (Int × Int)) (x : Int) : Int := (T.getD x.toNat (0, 0)).2
structure Tr (T : List (Int × Int)) : Prop where
  l30 : T.length ≤ 30
  b : ∀ x : Int, 0 ≤ x → x < T.length → 0 ≤ bf T x ∧ bf T x ≤ x
  c : ∀ x : Int, 0 ≤ x → x < T.length → 0 ≤ cs T x ∧ cs T x ≤ 1000000
def upN (T : List (Int × Int)) : Nat → Int → List Int
  | 0, _ => []
  | k + 1, x => if 0 ≤ x then x :: upN T k (bf T x - 1) else []
/-- the lines from the plant to place x + 1 -/
def up (T : List (Int × Int)) (x : Int) : List Int := upN T T.length x
theorem upN_neg (T : List (Int × Int)) (k : Nat) {x : Int} (h : x < 0) : upN T k x = [] := by
  cases k with
  | zero => rfl
  | succ k => unfold upN; rw [if_neg (by omega)]
theorem upN_stable {T : List (Int × Int)} (h : Tr T) : ∀ (k m : Nat) (x : Int), x < T.length → x < k → x < m → upN T k x = upN T m x := by
  intro k
  induction k with
  | zero => intro m x hx hk hm; rw [upN_neg T m (by omega)]; rfl
  | succ k ih =>
    intro m x hx hk hm
    by_cases h0 : 0 ≤ x
    · cases m with
      | zero => omega
      | succ m =>
        have hb := h.b x h0 hx
        simp only [upN, if_pos h0]
        rw [ih m _ (by omega) (by omega) (by omega)]
    · rw [upN_neg T _ (by omega), upN_neg T _ (by omega)]
theorem up_neg (T : List (Int × Int)) {x : Int} (h : x < 0) : up T x = [] := upN_neg T _ h
theorem up_step {T : List (Int × Int)} (h : Tr T) {x : Int} (h0 : 0 ≤ x) (hx : x < T.length) : up T x = x :: up T (bf T x - 1) := by
  have hb := h.b x h0 hx
  unfold up
  rw [upN_stable h T.length (T.length + 1) x hx (by omega) (by omega)]
  simp only [upN, if_pos h0]
theorem up_le {T : List (Int × Int)} (h : Tr T) : ∀ (k : Nat) (x y : Int), x < T.length → x < k → y ∈ up T x → 0 ≤ y ∧ y ≤ x := by
  intro k
  induction k with
  | zero => intro x y hx hk hy; rw [up_neg T (by omega)] at hy; simp at hy
  | succ k ih =>
    intro x y hx hk hy
    by_cases h0 : 0 ≤ x
    · have hb := h.b x h0 hx
      rw [up_step h h0 hx] at hy
      rcases List.mem_cons.1 hy with e | e
      · omega
      · have := ih _ y (by omega) (by omega) e; omega
    · rw [up_neg T (by omega)] at hy; simp at hy
theorem up_self {T : List (Int × Int)} (h : Tr T) {x : Int} (h0 : 0 ≤ x) (hx : x < T.length) : x ∈ up T x := by
  rw [up_step h h0 hx]; simp
theorem up_trans {T : List (Int × Int)} (h : Tr T) : ∀ (k : Nat) (x y z : Int), x < T.length → x < k → y ∈ up T x → z ∈ up T y → z ∈ up T x := by
  intro k
  induction k with
  | zero => intro x y z hx hk hy; rw [up_neg T (by omega)] at hy; simp at hy
  | succ k ih =>
    intro x y z hx hk hy hz
    by_cases h0 : 0 ≤ x
    · have hb := h.b x h0 hx
      rw [up_step h h0 hx] at hy ⊢
      rcases List.mem_cons.1 hy with e | e
      · subst e; rw [up_step h h0 hx] at hz; exact hz
      · exact List.mem_cons_of_mem _ (ih _ y z (by omega) (by omega) e hz)
    · rw [up_neg T (by omega)] at hy; simp at hy
/-- of two above, one is above the other -/
theorem up_chain {T : List (Int × Int)} (h : Tr T) : ∀ (k : Nat) (x y z : Int), x < T.length → x < k → y ∈ up T x → z ∈ up T x → y ∈ up T z ∨ z ∈ up T y := by
  intro k
  induction k with
  | zero => intro x y z hx hk hy; rw [up_neg T (by omega)] at hy; simp at hy
  | succ k ih =>
    intro x y z hx hk hy hz
    by_cases h0 : 0 ≤ x
    · have hb := h.b x h0 hx
      have hy2 := hy
      have hz2 := hz
      rw [up_step h h0 hx] at hy2 hz2
      rcases List.mem_cons.1 hy2 with e | e
      · subst e; exact .inr hz
      · rcases List.mem_cons.1 hz2 with e2 | e2
        · subst e2; exact .inl hy
        · exact ih _ y z (by omega) (by omega) e e2
    · rw [up_neg T (by omega)] at hy; simp at hy
/-- the places of a branch -/
def desc (T : List (Int × Int)) (b : Int) : List Int := (idx T.length).filter fun x => decide (b ∈ up T x)
theorem mem_desc (T : List (Int × Int)) (b x : Int) : x ∈ desc T b ↔ 0 ≤ x ∧ x < T.length ∧ b ∈ up T x := by
  unfold desc
  rw [List.mem_filter, mem_idx]
  simp [and_assoc]
theorem desc_asc (T : List (Int × Int)) (b : Int) : (desc T b).Pairwise (· < ·) := (rngA_asc _ _).filter _
theorem asc_nodup {L : List Int} (h : L.Pairwise (· < ·)) : L.Nodup := h.imp fun h e => by omega
theorem desc_self {T : List (Int × Int)} (h : Tr T) {b : Int} (h0 : 0 ≤ b) (hb : b < T.length) : b ∈ desc T b := (mem_desc T b b).2 ⟨h0, hb, up_self h h0 hb⟩
theorem desc_len (T : List (Int × Int)) (b : Int) : (desc T b).length ≤ T.length := by
  have h3 : (desc T b).length ≤ (idx T.length).length := by unfold desc; exact List.length_filter_le _ _
  have h2 : (idx T.length).length = T.length := rngA_len _ _
  omega
theorem desc_pos {T : List (Int × Int)} (h : Tr T) {b : Int} (h0 : 0 ≤ b) (hb : b < T.length) : 0 < (desc T b).length := List.length_pos_of_mem (desc_self h h0 hb)
/-- nested or apart -/
theorem desc_lam {T : List (Int × Int)} (h : Tr T) {b c x : Int} (hx : x ∈ desc T b) (hy : x ∈ desc T c) : (∀ y ∈ desc T b, y ∈ desc T c) ∨ (∀ y ∈ desc T c, y ∈ desc T b) := by
  have h1 := (mem_desc T b x).1 hx
  have h2 := (mem_desc T c x).1 hy
  have hle := up_le h (x.toNat + 1) x
  rcases up_chain h (x.toNat + 1) x b c h1.2.1 (by omega) h1.2.2 h2.2.2 with e | e
  · right
    intro y hy
    have h3 := (mem_desc T c y).1 hy
    exact (mem_desc T b y).2 ⟨h3.1, h3.2.1, up_trans h (y.toNat + 1) y c b h3.2.1 (by omega) h3.2.2 e⟩
  · left
    intro y hy
    have h3 := (mem_desc T b y).1 hy
    exact (mem_desc T c y).2 ⟨h3.1, h3.2.1, up_trans h (y.toNat + 1) y b c h3.2.1 (by omega) h3.2.2 e⟩
/-- what the own lines of a branch cost -/
def cst (T : List (Int × Int)) (b : Int) : Int := ((desc T b).map (cs T)).sum
/-- ascending lists with the same members -/
theorem asc_ext : ∀ {l m : List Int}, l.Pairwise (· < ·) → m.Pairwise (· < ·) → (∀ x, x ∈ l ↔ x ∈ m) → l = m := by
  intro l
  induction l with
  | nil =>
    intro m _ _ h
    cases m with
    | nil => rfl
    | cons b q => have := (h b).2 (by simp); simp at this
  | cons a r ih =>
    intro m h1 h2 h
    cases m with
    | nil => have := (h a).1 (by simp); simp at this
    | cons b q =>
      have ha := List.pairwise_cons.1 h1
      have hb := List.pairwise_cons.1 h2
      have hab : a = b := by
        rcases List.mem_cons.1 ((h a).1 (by simp)) with e | e
        · exact e
        · rcases List.mem_cons.1 ((h b).2 (by simp)) with e2 | e2
          · exact e2.symm
          · have := ha.1 b e2
            have := hb.1 a e
            omega
      subst hab
      rw [ih ha.2 hb.2]
      intro x
      constructor
      · intro hx
        rcases List.mem_cons.1 ((h x).1 (List.mem_cons_of_mem _ hx)) with e | e
        · have := ha.1 x hx; omega
        · exact e
      · intro hx
        rcases List.mem_cons.1 ((h x).2 (List.mem_cons_of_mem _ hx)) with e | e
        · have := hb.1 x hx; omega
        · exact e
/-! the program's way to the branches: each one is put to the one before it -/
def below (T : List (Int × Int)) (m : Nat) (i x : Int) : Prop := x = i ∨ ∃ c, (m : Int) ≤ c ∧ c < T.length ∧ bf T c - 1 = i ∧ c ∈ up T x
/-- what is found with the places from m on -/
def BrI (T : List (Int × Int)) (m : Nat) (F : Int → List Int) : Prop := ∀ i : Int, 0 ≤ i → i < T.length → (F i).Nodup ∧ ∀ x, x ∈ F i ↔ 0 ≤ x ∧ x < T.length ∧ below T m i x
theorem below_all {T : List (Int × Int)} (h : Tr T) {m : Nat} {i x : Int} (hi0 : 0 ≤ i) (hm : (m : Int) ≤ i + 1) (hx0 : 0 ≤ x) (hx : x < T.length) (hi : i < T.length) : below T m i x ↔ i ∈ up T x := by
  constructor
  · rintro (e | ⟨c, h1, h2, h3, h4⟩)
    · subst e; exact up_self h hx0 hx
    · refine up_trans h (x.toNat + 1) x c i hx (by omega) h4 ?_
      have := up_le h (x.toNat + 1) x c hx (by omega) h4
      rw [up_step h (by omega) h2, h3]
      exact List.mem_cons_of_mem _ (up_self h hi0 hi)
  · intro hu
    have key : ∀ (k : Nat) (y : Int), y < T.length → y < k → i ∈ up T y → y = i ∨ ∃ c, i < c ∧ c < T.length ∧ bf T c - 1 = i ∧ c ∈ up T y := by
      intro k
      induction k with
      | zero => intro y hy hk hu; rw [up_neg T (by omega)] at hu; simp at hu
      | succ k ih =>
        intro y hy hk hu
        by_cases h0 : 0 ≤ y
        · have hb := h.b y h0 hy
          rw [up_step h h0 hy] at hu
          rcases List.mem_cons.1 hu with e | e
          · exact .inl e.symm
          · right
            rcases ih _ (by omega) (by omega) e with e2 | ⟨c, h1, h2, h3, h4⟩
            · exact ⟨y, by omega, hy, e2, up_self h h0 hy⟩
            · exact ⟨c, h1, h2, h3, by rw [up_step h h0 hy]; exact List.mem_cons_of_mem _ h4⟩
        · rw [up_neg T (by omega)] at hu; simp at hu
    rcases key (x.toNat + 1) x hx (by omega) hu with e | ⟨c, h1, h2, h3, h4⟩
    · exact .inl e
    · exact .inr ⟨c, by omega, h2, h3, h4⟩
theorem BrI.init (T : List (Int × Int)) : BrI T T.length fun i => [i] := by
  intro i h0 hi
  refine ⟨by simp, fun x => ?_⟩
  unfold below
  simp
  constructor
  · intro e; subst e; exact ⟨h0, hi, .inl rfl⟩
  · rintro ⟨_, _, e | ⟨c, h1, h2, _⟩⟩
    · exact e
    · omega
theorem BrI.skip {T : List (Int × Int)} (h : Tr T) {m : Nat} (hm : m < T.length) {F : Int → List Int} (b : BrI T (m + 1) F) (hb : ¬ 0 < bf T m) : BrI T m F := by
  intro i h0 hi
  refine ⟨(b i h0 hi).1, fun x => ?_⟩
  rw [(b i h0 hi).2 x]
  refine and_congr_right fun _ => and_congr_right fun _ => ?_
  unfold below
  refine or_congr_right ⟨fun ⟨c, h1, h2, h3, h4⟩ => ⟨c, by omega, h2, h3, h4⟩, fun ⟨c, h1, h2, h3, h4⟩ => ⟨c, ?_, h2, h3, h4⟩⟩
  by_cases e : c = m
  · subst e; omega
  · omega
theorem BrI.step {T : List (Int × Int)} (h : Tr T) {m : Nat} (hm : m < T.length) {F : Int → List Int} (b : BrI T (m + 1) F) (hb : 0 < bf T m) : BrI T m fun i => if i = bf T m - 1 then F i ++ F m else F i := by
  have hbm := h.b m (by omega) (by omega)
  have bm := b m (by omega) (by omega)
  have hall : ∀ x, x ∈ F m ↔ 0 ≤ x ∧ x < T.length ∧ (m : Int) ∈ up T x := fun x => by
    rw [bm.2 x]
    refine and_congr_right fun h1 => and_congr_right fun h2 => ?_
    exact below_all h (by omega) (by omega) h1 h2 (by omega)
  intro i h0 hi
  by_cases e : i = bf T m - 1
  · simp only [if_pos e]
    have bi := b i h0 hi
    refine ⟨List.nodup_append.2 ⟨bi.1, bm.1, fun x hx y hy exy => ?_⟩, fun x => ?_⟩
    · subst exy
      have h1 := (bi.2 x).1 hx
      have h2 := (hall x).1 hy
      rcases h1.2.2 with e2 | ⟨c, k1, k2, k3, k4⟩
      · subst e2
        have := up_le h (x.toNat + 1) x m h1.2.1 (by omega) h2.2.2
        omega
      · rcases up_chain h (x.toNat + 1) x c m h1.2.1 (by omega) k4 h2.2.2 with e3 | e3
        · have := up_le h (m + 1) m c (by omega) (by omega) e3; omega
        · rw [up_step h (by omega) k2] at e3
          rcases List.mem_cons.1 e3 with e4 | e4
          · omega
          · have := up_le h (c.toNat + 1) (bf T c - 1) m (by have := h.b c (by omega) k2; omega) (by have := h.b c (by omega) k2; omega) e4
            omega
    · rw [List.mem_append, bi.2 x, hall x]
      unfold below
      constructor
      · rintro (⟨h1, h2, e2 | ⟨c, k1, k2, k3, k4⟩⟩ | ⟨h1, h2, h3⟩)
        · exact ⟨h1, h2, .inl e2⟩
        · exact ⟨h1, h2, .inr ⟨c, by omega, k2, k3, k4⟩⟩
        · exact ⟨h1, h2, .inr ⟨m, by omega, by omega, by omega, h3⟩⟩
      · rintro ⟨h1, h2, e2 | ⟨c, k1, k2, k3, k4⟩⟩
        · exact .inl ⟨h1, h2, .inl e2⟩
        · by_cases e3 : c = m
          · subst e3; exact .inr ⟨h1, h2, k4⟩
          · exact .inl ⟨h1, h2, .inr ⟨c, by omega, k2, k3, k4⟩⟩
  · simp only [if_neg e]
    refine ⟨(b i h0 hi).1, fun x => ?_⟩
    rw [(b i h0 hi).2 x]
    refine and_congr_right fun _ => and_congr_right fun _ => ?_
    unfold below
    refine or_congr_right ⟨fun ⟨c, h1, h2, h3, h4⟩ => ⟨c, by omega, h2, h3, h4⟩, fun ⟨c, h1, h2, h3, h4⟩ => ⟨c, ?_, h2, h3, h4⟩⟩
    by_cases e2 : c = m
    · subst e2; omega
    · omega
theorem BrI.sorted {T : List (Int × Int)} (h : Tr T) {F : Int → List Int} (b : BrI T 0 F) {i : Int} (h0 : 0 ≤ i) (hi : i < T.length) : sortI (F i) = desc T i := by
  refine asc_ext (sortI_asc (b i h0 hi).1) (desc_asc T i) fun x => ?_
  rw [(ordI_perm (F i)).mem_iff, (b i h0 hi).2 x, mem_desc]
  refine and_congr_right fun h1 => and_congr_right fun h2 => ?_
  exact below_all h h0 (by omega) h1 h2 hi
end P72M
end
section
set_option linter.all false
set_option maxRecDepth 100000
namespace P72M
open P72
open PySem EV EU
set_option autoImplicit false
theorem sumQ_ite {α : Type} (p : α → Bool) (g : α → Rat) (L : List α) : (L.map fun x => if p x then g x else 0).sum = ((L.filter p).map g).sum := by
  induction L with
  | nil => rfl
  | cons a r ih =>
    rw [List.map_cons, List.sum_cons, ih, List.filter_cons]
    cases p a
    · simp; exact Rat.zero_add _
    · simp
theorem sumQ_swap {α β : Type} (f : α → β → Rat) (A : List α) (B : List β) : (A.map fun x => (B.map (f x)).sum).sum = (B.map fun y => (A.map fun x => f x y).sum).sum := by
  induction A with
  | nil =>
    simp only [List.map_nil, List.sum_nil]
    induction B with
    | nil => rfl
    | cons b r ih => rw [List.map_cons, List.sum_cons, ← ih]; exact (Rat.add_zero 0).symm
  | cons a r ih =>
    simp only [List.map_cons, List.sum_cons, ih]
    rw [← sumQ_add]
theorem sumQ_nonneg {α : Type} {f : α → Rat} {L : List α} (h : ∀ x ∈ L, 0 ≤ f x) : 0 ≤ (L.map f).sum := by
  induction L with
  | nil => exact Rat.le_refl
  | cons a r ih =>
    have h1 := h a (by simp)
    have h2 := ih fun x hx => h x (List.mem_cons_of_mem _ hx)
    simp only [List.map_cons, List.sum_cons]
    grind
def csQ (T : List (Int × Int)) (x : Int) : Rat := (cs T x : Rat)
theorem cst_Q (T : List (Int × Int)) (b : Int) : ((desc T b).map (csQ T)).sum = (cst T b : Rat) := sumQ_int (cs T) _
theorem csQ_nonneg {T : List (Int × Int)} (h : Tr T) {x : Int} (h0 : 0 ≤ x) (hx : x < T.length) : 0 ≤ csQ T x := by
  unfold csQ
  exact Rat.intCast_nonneg.2 (h.c x h0 hx).1
/-! levelled -/
abbrev Fn := Int → Option Rat
def vF (F : Fn) (x : Int) : Rat := (F x).getD 0
def opn (T : List (Int × Int)) (F : Fn) (b : Int) : List Int := (desc T b).filter fun x => (F x).isNone
def W (F : Fn) (L : List Int) : Rat := (L.map (vF F)).sum
def CD (T : List (Int × Int)) (F : Fn) (L : List Int) : Rat := (L.map fun x => if (F x).isSome then csQ T x else 0).sum
def full (T : List (Int × Int)) (F : Fn) (b : Int) : Prop := ∀ x ∈ desc T b, (F x).isSome = true
def setF (F : Fn) (U : List Int) (p : Rat) : Fn := fun x => if x ∈ U then some p else F x
structure Pick (T : List (Int × Int)) (F : Fn) (b : Int) (p : Rat) : Prop where
  b0 : 0 ≤ b
  bn : b < T.length
  ne : opn T F b ≠ []
  eq : ((opn T F b).map (csQ T)).sum = p * ((opn T F b).length : Rat)
  mx : ∀ c : Int, 0 ≤ c → c < T.length → ((opn T F c).map (csQ T)).sum ≤ p * ((opn T F c).length : Rat)
structure LvI (T : List (Int × Int)) (F : Fn) (PK : Rat) : Prop where
  all : W F (idx T.length) = CD T F (idx T.length)
  kb : ∀ b : Int, 0 ≤ b → b < T.length → ¬ full T F b → W F (desc T b) = CD T F (desc T b)
  cov : ∀ b : Int, 0 ≤ b → b < T.length → full T F b → (cst T b : Rat) ≤ W F (desc T b)
  tig : ∀ (x : Int) (q : Rat), 0 ≤ x → x < T.length → F x = some q → ∃ b : Int, 0 ≤ b ∧ b < T.length ∧ x ∈ desc T b ∧ full T F b ∧ W F (desc T b) = (cst T b : Rat) ∧ ∀ y ∈ desc T b, q ≤ vF F y
  le : ∀ (b x : Int) (q : Rat), 0 ≤ b → b < T.length → F x = some q → ((opn T F b).map (csQ T)).sum ≤ q * ((opn T F b).length : Rat)
  out : ∀ x : Int, ¬ (0 ≤ x ∧ x < T.length) → F x = none
  pk : ∀ (x : Int) (q : Rat), F x = some q → 0 ≤ q ∧ q ≤ PK
  hit : (∀ x, F x = none) ∨ ∃ x : Int, 0 ≤ x ∧ x < T.length ∧ F x = some PK
theorem opn_mem (T : List (Int × Int)) (F : Fn) (b x : Int) : x ∈ opn T F b ↔ x ∈ desc T b ∧ F x = none := by
  unfold opn
  rw [List.mem_filter]
  simp
theorem opn_nil {T : List (Int × Int)} {F : Fn} {b : Int} : opn T F b = [] ↔ full T F b := by
  unfold full
  constructor
  · intro h x hx
    cases hf : F x with
    | none => have : x ∈ opn T F b := (opn_mem T F b x).2 ⟨hx, hf⟩; rw [h] at this; simp at this
    | some q => rfl
  · intro h
    rw [List.eq_nil_iff_forall_not_mem]
    intro x hx
    have := (opn_mem T F b x).1 hx
    have h2 := h x this.1
    rw [this.2] at h2
    cases h2
theorem opn_asc (T : List (Int × Int)) (F : Fn) (b : Int) : (opn T F b).Pairwise (· < ·) := (desc_asc T b).filter _
/-- a branch's sum, in parts -/
theorem cst_parts (T : List (Int × Int)) (F : Fn) (b : Int) : (cst T b : Rat) = CD T F (desc T b) + ((opn T F b).map (csQ T)).sum := by
  rw [← cst_Q, sumQ_part (fun x => (F x).isSome) (csQ T) (desc T b)]
  unfold CD opn
  rw [sumQ_ite]
  congr 2
  congr 1
  apply List.filter_congr
  intro x _
  cases F x <;> rfl
theorem filt_mem {D U : List Int} (hD : D.Pairwise (· < ·)) (hU : U.Pairwise (· < ·)) (hs : ∀ x ∈ U, x ∈ D) : D.filter (fun x => decide (x ∈ U)) = U := by
  refine asc_ext (hD.filter _) hU fun x => ?_
  rw [List.mem_filter]
  simp only [decide_eq_true_eq]
  exact ⟨fun h => h.2, fun h => ⟨hs x h, h⟩⟩
section
variable {T : List (Int × Int)} {F : Fn} {b : Int} {p : Rat}
theorem vF_put {U : List Int} (hU : ∀ x ∈ U, F x = none) (x : Int) : vF (setF F U p) x = vF F x + (if decide (x ∈ U) then p else 0) := by
  unfold vF setF
  by_cases h : x ∈ U
  · rw [if_pos h, hU x h]
    simp [h]
    exact (Rat.zero_add p).symm
  · rw [if_neg h]
    simp [h]
    exact (Rat.add_zero _).symm
theorem W_put {U D : List Int} (hU : ∀ x ∈ U, F x = none) (hUa : U.Pairwise (· < ·)) (hD : D.Pairwise (· < ·)) (hs : ∀ x ∈ U, x ∈ D) : W (setF F U p) D = W F D + p * (U.length : Rat) := by
  unfold W
  rw [List.map_congr_left fun x _ => vF_put hU x, sumQ_add, sumQ_ite (fun x => decide (x ∈ U)) (fun _ => p), filt_mem hD hUa hs, sumQ_const]
  grind
theorem CD_put {U D : List Int} (hU : ∀ x ∈ U, F x = none) (hUa : U.Pairwise (· < ·)) (hD : D.Pairwise (· < ·)) (hs : ∀ x ∈ U, x ∈ D) : CD T (setF F U p) D = CD T F D + (U.map (csQ T)).sum := by
  unfold CD
  have e : ∀ x ∈ D, (if (setF F U p x).isSome then csQ T x else 0) = (if (F x).isSome then csQ T x else 0) + (if decide (x ∈ U) then csQ T x else 0) := by
    intro x _
    unfold setF
    by_cases h : x ∈ U
    · rw [if_pos h, hU x h]
      simp [h]
      exact (Rat.zero_add _).symm
    · rw [if_neg h]
      simp [h]
      exact (Rat.add_zero _).symm
  rw [List.map_congr_left e, sumQ_add, sumQ_ite (fun x => decide (x ∈ U)) (csQ T), filt_mem hD hUa hs]
theorem W_same {U D : List Int} (h : ∀ x ∈ D, x ∉ U) : W (setF F U p) D = W F D := by
  unfold W
  rw [List.map_congr_left fun x hx => show vF (setF F U p) x = vF F x by unfold vF setF; rw [if_neg (h x hx)]]
theorem CD_same {U D : List Int} (h : ∀ x ∈ D, x ∉ U) : CD T (setF F U p) D = CD T F D := by
  unfold CD
  rw [List.map_congr_left fun x hx => by unfold setF; rw [if_neg (h x hx)]]
theorem len_pos {α : Type} {L : List α} (h : L ≠ []) : (0 : Rat) < (L.length : Rat) := by
  have : 0 < L.length := List.length_pos_iff.2 h
  exact Rat.natCast_pos.2 this
theorem opn_put_cases (h : Tr T) {c : Int} (hn : ¬ full T (setF F (opn T F b) p) c) : (∀ x ∈ desc T c, x ∉ opn T F b) ∨ (∀ x ∈ opn T F b, x ∈ desc T c) := by
  by_cases hd : ∃ x, x ∈ desc T c ∧ x ∈ opn T F b
  · obtain ⟨x, h1, h2⟩ := hd
    rcases desc_lam h h1 ((opn_mem T F b x).1 h2).1 with e | e
    · exfalso
      apply hn
      intro y hy
      unfold setF
      by_cases hf : y ∈ opn T F b
      · rw [if_pos hf]; rfl
      · rw [if_neg hf]
        cases hv : F y with
        | none => exact absurd ((opn_mem T F b y).2 ⟨e y hy, hv⟩) hf
        | some q => rfl
    · exact .inr fun y hy => e y ((opn_mem T F b y).1 hy).1
  · exact .inl fun x hx hu => hd ⟨x, hx, hu⟩
theorem full_mono {U : List Int} {c : Int} (hf : full T F c) : full T (setF F U p) c := by
  intro x hx
  unfold setF
  split
  · rfl
  · exact hf x hx
/-- the open ones behind a step -/
theorem opn_put (c : Int) : opn T (setF F (opn T F b) p) c = (opn T F c).filter fun x => decide (x ∉ opn T F b) := by
  unfold opn
  rw [List.filter_filter]
  apply List.filter_congr
  intro x _
  unfold setF
  by_cases h : x ∈ (desc T b).filter fun x => (F x).isNone
  · simp [h]
  · rw [if_neg h]
    simp [h]
theorem LvI.step {PK : Rat} (h : Tr T) (I : LvI T F PK) (k : Pick T F b p) (hPK : ∀ c : Int, 0 ≤ c → c < T.length → (cst T c : Rat) ≤ PK * ((desc T c).length : Rat)) (hhit : ∃ c : Int, 0 ≤ c ∧ c < T.length ∧ (cst T c : Rat) = PK * ((desc T c).length : Rat)) : LvI T (setF F (opn T F b) p) PK := by
  have hU : ∀ x ∈ opn T F b, F x = none := fun x hx => ((opn_mem T F b x).1 hx).2
  have hUa := opn_asc T F b
  have hUd : ∀ x ∈ opn T F b, x ∈ desc T b := fun x hx => ((opn_mem T F b x).1 hx).1
  have hUi : ∀ x ∈ opn T F b, x ∈ idx T.length := fun x hx => by
    have := (mem_desc T b x).1 (hUd x hx)
    exact (mem_idx _ _).2 ⟨this.1, this.2.1⟩
  have hlen := len_pos k.ne
  have hnf : ¬ full T F b := fun hf => k.ne (opn_nil.2 hf)
  have hple : ∀ x q, F x = some q → p ≤ q := fun x q hq => by
    have h1 := I.le b x q k.b0 k.bn hq
    rw [k.eq] at h1
    exact Rat.le_of_mul_le_mul_right h1 hlen
  have hp0 : 0 ≤ p := by
    have h1 : 0 ≤ ((opn T F b).map (csQ T)).sum := sumQ_nonneg fun x hx => by
      have := (mem_desc T b x).1 (hUd x hx)
      exact csQ_nonneg h this.1 this.2.1
    rw [k.eq] at h1
    have h2 : 0 * ((opn T F b).length : Rat) ≤ p * ((opn T F b).length : Rat) := by rw [Rat.zero_mul]; exact h1
    exact Rat.le_of_mul_le_mul_right h2 hlen
  have hput : ∀ x q, setF F (opn T F b) p x = some q → (x ∈ opn T F b ∧ q = p) ∨ F x = some q := fun x q hq => by
    unfold setF at hq
    split at hq
    · rename_i hm; injection hq with hq; exact .inl ⟨hm, hq.symm⟩
    · exact .inr hq
  have hsumle : ∀ c : Int, 0 ≤ c → c < T.length → ((opn T (setF F (opn T F b) p) c).map (csQ T)).sum ≤ p * ((opn T (setF F (opn T F b) p) c).length : Rat) := fun c c0 cn => by
    by_cases hf : full T (setF F (opn T F b) p) c
    · rw [opn_nil.2 hf]
      simp
    · rw [opn_put]
      have hmx := k.mx c c0 cn
      rcases opn_put_cases h hf with hd | hs
      · have : (opn T F c).filter (fun x => decide (x ∉ opn T F b)) = opn T F c := by
          rw [List.filter_eq_self]
          intro x hx
          exact decide_eq_true (hd x ((opn_mem T F c x).1 hx).1)
        rw [this]; exact hmx
      · have e1 := sumQ_part (fun x => decide (x ∈ opn T F b)) (csQ T) (opn T F c)
        have hsub : ∀ x ∈ opn T F b, x ∈ opn T F c := fun x hx => (opn_mem T F c x).2 ⟨hs x hx, hU x hx⟩
        rw [filt_mem (opn_asc T F c) hUa hsub, k.eq] at e1
        have e2 : ((opn T F c).filter fun x => !decide (x ∈ opn T F b)) = (opn T F c).filter fun x => decide (x ∉ opn T F b) := by
          apply List.filter_congr
          intro x _
          rw [decide_not]
        rw [e2] at e1
        have e3 : ((opn T F c).length : Rat) = ((opn T F b).length : Rat) + (((opn T F c).filter fun x => decide (x ∉ opn T F b)).length : Rat) := by
          have e4 := sumQ_part (fun x => decide (x ∈ opn T F b)) (fun _ => (1 : Rat)) (opn T F c)
          rw [filt_mem (opn_asc T F c) hUa hsub, e2, sumQ_const, sumQ_const, sumQ_const] at e4
          grind
        rw [e1, e3] at hmx
        grind
  refine ⟨?_, fun c c0 cn hn => ?_, fun c c0 cn hf => ?_, fun x q x0 xn hq => ?_, fun c x q c0 cn hq => ?_, fun x hx => ?_, fun x q hq => ?_, ?_⟩
  · rw [W_put (D := idx T.length) hU hUa (rngA_asc _ _) hUi, CD_put (D := idx T.length) hU hUa (rngA_asc _ _) hUi, I.all, k.eq]
  · have hn2 : ¬ full T F c := fun hf => hn (full_mono hf)
    have hk := I.kb c c0 cn hn2
    rcases opn_put_cases h hn with hd | hs
    · rw [W_same hd, CD_same hd, hk]
    · rw [W_put hU hUa (desc_asc T c) hs, CD_put hU hUa (desc_asc T c) hs, hk, k.eq]
  · by_cases hf2 : full T F c
    · have hd : ∀ x ∈ desc T c, x ∉ opn T F b := fun x hx hu => by
        have h1 := hf2 x hx
        rw [hU x hu] at h1
        cases h1
      rw [W_same hd]
      exact I.cov c c0 cn hf2
    · have hk := I.kb c c0 cn hf2
      have hO : ∀ x ∈ opn T F c, x ∈ opn T F b := fun x hx => by
        have h1 := (opn_mem T F c x).1 hx
        have h2 := hf x h1.1
        unfold setF at h2
        split at h2
        · rename_i hm; exact hm
        · rw [h1.2] at h2; cases h2
      have e1 : W (setF F (opn T F b) p) (desc T c) = W F (desc T c) + p * ((opn T F c).length : Rat) := by
        unfold W
        rw [List.map_congr_left fun x _ => vF_put hU x, sumQ_add, sumQ_ite (fun x => decide (x ∈ opn T F b)) (fun _ => p), sumQ_const]
        have : (desc T c).filter (fun x => decide (x ∈ opn T F b)) = opn T F c := by
          unfold opn
          apply List.filter_congr
          intro x hx
          have hm := opn_mem T F b x
          by_cases hb2 : x ∈ opn T F b
          · have h2 := hU x hb2
            unfold opn at hb2
            rw [decide_eq_true hb2, h2]
            rfl
          · have h3 : F x ≠ none := fun e => hb2 (hO x ((opn_mem T F c x).2 ⟨hx, e⟩))
            unfold opn at hb2
            rw [decide_eq_false hb2]
            cases hv : F x with
            | none => exact absurd hv h3
            | some q => rfl
        rw [this]
        grind
      rw [e1, hk, cst_parts T F c]
      have := k.mx c c0 cn
      grind
  · rcases hput x q hq with ⟨hm, rfl⟩ | ho
    · refine ⟨b, k.b0, k.bn, hUd x hm, ?_, ?_, fun y hy => ?_⟩
      · intro y hy
        unfold setF
        split
        · rfl
        · rename_i hf
          cases hv : F y with
          | none => exact absurd ((opn_mem T F b y).2 ⟨hy, hv⟩) hf
          | some q => rfl
      · rw [W_put hU hUa (desc_asc T b) hUd, I.kb b k.b0 k.bn hnf, cst_parts T F b, k.eq]
      · unfold vF setF
        split
        · exact Rat.le_refl
        · rename_i hf
          cases hv : F y with
          | none => exact absurd ((opn_mem T F b y).2 ⟨hy, hv⟩) hf
          | some q2 => exact hple y q2 hv
    · obtain ⟨c, c0, cn, hxc, hf, hw, hmin⟩ := I.tig x q x0 xn ho
      have hd : ∀ y ∈ desc T c, y ∉ opn T F b := fun y hy hu => by
        have h1 := hf y hy
        rw [hU y hu] at h1
        cases h1
      refine ⟨c, c0, cn, hxc, full_mono hf, by rw [W_same hd]; exact hw, fun y hy => ?_⟩
      have := hmin y hy
      unfold vF setF
      rw [if_neg (hd y hy)]
      exact this
  · have h1 := hsumle c c0 cn
    have hge : (0 : Rat) ≤ ((opn T (setF F (opn T F b) p) c).length : Rat) := Rat.natCast_nonneg
    rcases hput x q hq with ⟨_, rfl⟩ | ho
    · exact h1
    · have h2 := hple x q ho
      have h3 := Rat.mul_le_mul_of_nonneg_right h2 hge
      exact Rat.le_trans h1 h3
  · unfold setF
    rw [if_neg fun hm => hx ((mem_idx _ _).1 (hUi x hm))]
    exact I.out x hx
  · rcases hput x q hq with ⟨_, rfl⟩ | ho
    · refine ⟨hp0, ?_⟩
      rcases I.hit with hnone | ⟨y, y0, yn, hy⟩
      · have e : opn T F b = desc T b := by
          unfold opn
          rw [List.filter_eq_self]
          intro x _
          rw [hnone x]; rfl
        have h1 := hPK b k.b0 k.bn
        rw [← cst_Q, ← e, k.eq] at h1
        exact Rat.le_of_mul_le_mul_right h1 hlen
      · have := hple y PK hy
        exact this
    · exact I.pk x q ho
  · right
    rcases I.hit with hnone | ⟨y, y0, yn, hy⟩
    · obtain ⟨c, c0, cn, hc⟩ := hhit
      have e : ∀ d, opn T F d = desc T d := fun d => by
        unfold opn
        rw [List.filter_eq_self]
        intro x _
        rw [hnone x]; rfl
      have h1 := k.mx c c0 cn
      rw [e c, cst_Q, hc] at h1
      have h2 := hPK b k.b0 k.bn
      rw [← cst_Q, ← e b, k.eq] at h2
      have h3 := Rat.le_of_mul_le_mul_right h2 hlen
      have hdl : (0 : Rat) < ((desc T c).length : Rat) := Rat.natCast_pos.2 (desc_pos h c0 cn)
      have h4 := Rat.le_of_mul_le_mul_right h1 hdl
      have h5 : p = PK := Rat.le_antisymm h3 h4
      obtain ⟨x, hx⟩ := List.exists_mem_of_ne_nil _ k.ne
      have hxi := (mem_idx _ _).1 (hUi x hx)
      refine ⟨x, hxi.1, hxi.2, ?_⟩
      unfold setF
      rw [if_pos hx, h5]
    · refine ⟨y, y0, yn, ?_⟩
      unfold setF
      rw [if_neg fun hm => by rw [hU y hm] at hy; cases hy]
      exact hy
end
end P72M
end
section
set_option linter.all false
set_option maxRecDepth 100000
namespace P72M
open P72
open PySem EV EU
set_option autoImplicit false
def Mq (q : Rat) : Prop := ∃ z : Int, q * 2329089562800 = z
theorem Mq.add {q r : Rat} (hq : Mq q) (hr : Mq r) : Mq (q + r) := by
  obtain ⟨z, hz⟩ := hq
  obtain ⟨w, hw⟩ := hr
  refine ⟨z + w, ?_⟩
  push_cast
  rw [← hz, ← hw]
  grind
theorem Mq.neg {q : Rat} (hq : Mq q) : Mq (-q) := by
  obtain ⟨z, hz⟩ := hq
  refine ⟨-z, ?_⟩
  push_cast
  rw [← hz]
  grind
theorem Mq.int (i : Int) : Mq (i : Rat) := ⟨i * 2329089562800, by push_cast; rfl⟩
theorem Mq.zero : Mq 0 := Mq.int 0
theorem Mq.sum {α : Type} {f : α → Rat} {L : List α} (h : ∀ x ∈ L, Mq (f x)) : Mq (L.map f).sum := by
  induction L with
  | nil => exact Mq.zero
  | cons a r ih =>
    rw [List.map_cons, List.sum_cons]
    exact (h a (by simp)).add (ih fun x hx => h x (List.mem_cons_of_mem _ hx))
theorem dvd30 {k : Nat} (h0 : 0 < k) (h1 : k ≤ 30) : k ∣ 2329089562800 := by
  have : ∀ j : Fin 31, 0 < j.1 → j.1 ∣ 2329089562800 := by decide +kernel
  exact this ⟨k, by omega⟩ h0
/-- a fraction with a small bottom -/
theorem Mq.of {p : Rat} {k : Nat} {z : Int} (h0 : 0 < k) (h1 : k ≤ 30) (h : p * (k : Rat) = z) : Mq p := by
  obtain ⟨m, hm⟩ := dvd30 h0 h1
  refine ⟨z * m, ?_⟩
  have e : (2329089562800 : Rat) = (k : Rat) * (m : Rat) := by
    have : ((2329089562800 : Nat) : Rat) = ((k * m : Nat) : Rat) := by rw [hm]
    push_cast at this
    exact this
  rw [e]
  push_cast
  rw [← h]
  grind
theorem Gq.of {q : Rat} (h0 : -1000000000 ≤ q) (h1 : q ≤ 1000000000) (h : Mq q) : Gq q := ⟨h0, h1, h⟩
/-- a line's part -/
def shr (T : List (Int × Int)) (l : Int) : Rat := csQ T l / ((desc T l).length : Rat)
theorem shr_eq {T : List (Int × Int)} (h : Tr T) {l : Int} (h0 : 0 ≤ l) (hl : l < T.length) : shr T l * ((desc T l).length : Rat) = csQ T l := by
  have hp : (0 : Rat) < ((desc T l).length : Rat) := Rat.natCast_pos.2 (desc_pos h h0 hl)
  exact Rat.div_mul_cancel (Rat.ne_of_gt hp)
theorem shr_nonneg {T : List (Int × Int)} (h : Tr T) {l : Int} (h0 : 0 ≤ l) (hl : l < T.length) : 0 ≤ shr T l := by
  have hp : (0 : Rat) < ((desc T l).length : Rat) := Rat.natCast_pos.2 (desc_pos h h0 hl)
  have h1 := csQ_nonneg h h0 hl
  rw [← shr_eq h h0 hl] at h1
  have h2 : 0 * ((desc T l).length : Rat) ≤ shr T l * ((desc T l).length : Rat) := by rw [Rat.zero_mul]; exact h1
  exact Rat.le_of_mul_le_mul_right h2 hp
theorem shr_le {T : List (Int × Int)} (h : Tr T) {l : Int} (h0 : 0 ≤ l) (hl : l < T.length) : shr T l ≤ 1000000 := by
  have hp : (0 : Rat) < ((desc T l).length : Rat) := Rat.natCast_pos.2 (desc_pos h h0 hl)
  have h1 : csQ T l ≤ 1000000 := by
    have := (h.c l h0 hl).2
    unfold csQ
    have h2 := Rat.intCast_le_intCast.2 this
    exact h2
  have h3 : (1 : Rat) ≤ ((desc T l).length : Rat) := by
    have : 1 ≤ (desc T l).length := desc_pos h h0 hl
    have h4 := Rat.natCast_le_natCast.2 this
    exact h4
  have h4 : shr T l * 1 ≤ shr T l * ((desc T l).length : Rat) := Rat.mul_le_mul_of_nonneg_left h3 (shr_nonneg h h0 hl)
  rw [shr_eq h h0 hl] at h4
  grind
theorem shr_M {T : List (Int × Int)} (h : Tr T) {l : Int} (h0 : 0 ≤ l) (hl : l < T.length) : Mq (shr T l) :=
  Mq.of (desc_pos h h0 hl) (by have := desc_len T l; have := h.l30; omega) (z := cs T l) (shr_eq h h0 hl)
/-- what x pays for the first m lines -/
def part (T : List (Int × Int)) (l x : Int) : Rat := if decide (l ∈ up T x) then shr T l else 0
def ev (T : List (Int × Int)) (m : Nat) (x : Int) : Rat := ((idx m).map fun l => part T l x).sum
theorem ev_succ (T : List (Int × Int)) (m : Nat) (x : Int) : ev T (m + 1) x = ev T m x + part T m x := by
  unfold ev
  rw [idx_snoc, List.map_append, List.sum_append]
  simp only [List.map_cons, List.map_nil, List.sum_cons, List.sum_nil]
  grind
theorem part_b {T : List (Int × Int)} (h : Tr T) {l : Int} (h0 : 0 ≤ l) (hl : l < T.length) (x : Int) : 0 ≤ part T l x ∧ part T l x ≤ 1000000 ∧ Mq (part T l x) := by
  unfold part
  split
  · exact ⟨shr_nonneg h h0 hl, shr_le h h0 hl, shr_M h h0 hl⟩
  · exact ⟨Rat.le_refl, by decide, Mq.zero⟩
theorem ev_b {T : List (Int × Int)} (h : Tr T) (x : Int) : ∀ m : Nat, m ≤ T.length → 0 ≤ ev T m x ∧ ev T m x ≤ (m : Rat) * 1000000 ∧ Mq (ev T m x) := by
  intro m
  induction m with
  | zero => intro _; exact ⟨Rat.le_refl, by simp [ev, idx, rngA], Mq.zero⟩
  | succ m ih =>
    intro hm
    obtain ⟨h1, h2, h3⟩ := ih (by omega)
    obtain ⟨k1, k2, k3⟩ := part_b h (l := (m : Int)) (by omega) (by omega) x
    rw [ev_succ]
    refine ⟨by grind, ?_, h3.add k3⟩
    push_cast
    grind
theorem ev_G {T : List (Int × Int)} (h : Tr T) (x : Int) (m : Nat) (hm : m ≤ T.length) : Gq (ev T m x) := by
  obtain ⟨h1, h2, h3⟩ := ev_b h x m hm
  have h4 : (m : Rat) ≤ 30 := by
    have : m ≤ 30 := by have := h.l30; omega
    exact Rat.natCast_le_natCast.2 this
  exact Gq.of (by grind) (by grind) h3
/-- all that is paid by some places for a line -/
theorem part_sum {T : List (Int × Int)} {D : List Int} (hD : D.Pairwise (· < ·)) (l : Int) (hs : ∀ x ∈ desc T l, x ∈ D) (hin : ∀ x ∈ D, 0 ≤ x ∧ x < T.length) (h : Tr T) (h0 : 0 ≤ l) (hl : l < T.length) : (D.map fun x => part T l x).sum = csQ T l := by
  unfold part
  rw [sumQ_ite (fun x => decide (l ∈ up T x)) (fun _ => shr T l)]
  have e : D.filter (fun x => decide (l ∈ up T x)) = desc T l := by
    refine asc_ext (hD.filter _) (desc_asc T l) fun x => ?_
    rw [List.mem_filter]
    simp only [decide_eq_true_eq]
    constructor
    · intro ⟨h1, h2⟩
      have := hin x h1
      exact (mem_desc T l x).2 ⟨this.1, this.2, h2⟩
    · intro hx
      exact ⟨hs x hx, ((mem_desc T l x).1 hx).2.2⟩
  rw [e, sumQ_const, ← shr_eq h h0 hl]
  grind
theorem ev_all {T : List (Int × Int)} (h : Tr T) : ((idx T.length).map (ev T T.length)).sum = (((idx T.length).map (cs T)).sum : Rat) := by
  unfold ev
  rw [sumQ_swap, ← sumQ_int]
  congr 1
  apply List.map_congr_left
  intro l hl
  have hl2 := (mem_idx _ _).1 hl
  exact part_sum (rngA_asc _ _) l (fun x hx => by have := (mem_desc T l x).1 hx; exact (mem_idx _ _).2 ⟨this.1, this.2.1⟩) (fun x hx => (mem_idx _ _).1 hx) h hl2.1 hl2.2
theorem ev_fair {T : List (Int × Int)} (h : Tr T) {b : Int} (b0 : 0 ≤ b) (bn : b < T.length) : (cst T b : Rat) ≤ ((desc T b).map (ev T T.length)).sum := by
  unfold ev
  rw [sumQ_swap, sumQ_part (fun l => decide (b ∈ up T l)), ← cst_Q]
  have e1 : ((idx T.length).filter fun l => decide (b ∈ up T l)) = desc T b := rfl
  rw [e1]
  have e2 : ((desc T b).map fun l => ((desc T b).map fun x => part T l x).sum) = (desc T b).map (csQ T) := by
    apply List.map_congr_left
    intro l hl
    have hl2 := (mem_desc T b l).1 hl
    exact part_sum (desc_asc T b) l (fun x hx => by
      have h3 := (mem_desc T l x).1 hx
      exact (mem_desc T b x).2 ⟨h3.1, h3.2.1, up_trans h (x.toNat + 1) x l b h3.2.1 (by omega) h3.2.2 hl2.2.2⟩) (fun x hx => by have := (mem_desc T b x).1 hx; exact ⟨this.1, this.2.1⟩) h hl2.1 hl2.2.1
  rw [e2]
  have h3 : 0 ≤ (((idx T.length).filter fun l => !decide (b ∈ up T l)).map fun l => ((desc T b).map fun x => part T l x).sum).sum := sumQ_nonneg fun l hl => sumQ_nonneg fun x hx => by
    have hl2 := (mem_idx _ _).1 (List.mem_filter.1 hl).1
    exact (part_b h hl2.1 hl2.2 x).1
  grind
end P72M
end
section
set_option linter.all false
set_option maxRecDepth 100000
set_option maxHeartbeats 4000000
namespace P72M
open P72
open PySem EV EU
open L2 (Key)
set_option autoImplicit false
def pD (p : Int × Int) : D := .tup [.int p.1, .int p.2]
def tD (T : List (Int × Int)) : D := .tup (T.map pD)
theorem ixT (T : List (Int × Int)) {x : Int} (h0 : 0 ≤ x) (hx : x < T.length) : ixD (T.map pD) x = some (.tup [.int (bf T x), .int (cs T x)]) := by
  have h1 : x.toNat < T.length := by omega
  have h2 : T.getD x.toNat (0, 0) = T[x.toNat] := by rw [List.getD_eq_getElem?_getD, List.getElem?_eq_getElem h1]; rfl
  simp [ixD, L2.ixN, h0, hx, h1, bf, cs, pD, List.getElem?_eq_getElem h1]
theorem enumL_at {x : D} : ∀ {L : List D} {k : Nat}, x ∈ enumL k L → ∃ (i : Nat) (y : D), L[i]? = some y ∧ x = .tup [.int ((k + i : Nat) : Int), y] := by
  intro L
  induction L with
  | nil => intro k h; simp [enumL] at h
  | cons a r ih =>
    intro k h
    rcases List.mem_cons.1 h with e | e
    · exact ⟨0, a, rfl, e⟩
    · obtain ⟨i, y, h1, h2⟩ := ih e
      refine ⟨i + 1, y, by simpa using h1, ?_⟩
      rw [h2, show k + (i + 1) = k + 1 + i by omega]
theorem nofT (xs : List D) : NoF (.tup xs) := ⟨fun _ h => (by cases h), fun _ h => (by cases h)⟩
theorem asB_true (m : Nat) : asB (List.replicate m (.bl true)) = some (List.replicate m true) := by
  induction m with
  | zero => rfl
  | succ m ih => simp [List.replicate_succ, asB, ih]
theorem all_true (m : Nat) : (List.replicate m true).all id = true := by simp
theorem is_tree (n : Nat) {T : List (Int × Int)} (h : Tr T) : (runs prg (n+2)).1 5 [.d (tD T)] = .ok (.d (.bl true), [none]) := by
  have h30 := h.l30
  have e1 := is_tuple_of n (.tup (T.map pD)) 0 30 (nofT _)
  have t1 : tupOf (.tup (T.map pD)) 0 30 = true := by simp [tupOf]; omega
  rw [t1] at e1
  rw [run_s (n+1) 5 _ d_is_tree rfl]
  simp only [tD] at *
  simp? only [d_is_tree, b_is_tree, e1]
  rw [lcL_const (.bl true)]
  · simp? only [asB_true, all_true]
    rw [lcL_const (.bl true)]
    · simp? only [asB_true, all_true]
    · intro x hx
      obtain ⟨i, y, h1, rfl⟩ := enumL_at hx
      have hi : i < T.length := by have := (List.getElem?_eq_some_iff.1 h1).1; simpa using this
      rw [List.getElem?_map, List.getElem?_eq_getElem hi] at h1
      injection h1 with h1
      subst h1
      have hb := h.b i (by omega) (by omega)
      have hc := h.c i (by omega) (by omega)
      have h2 : T.getD ((i : Int)).toNat (0, 0) = T[i] := by rw [show ((i : Int)).toNat = i by omega, List.getD_eq_getElem?_getD, List.getElem?_eq_getElem hi]; rfl
      unfold bf at hb
      unfold cs at hc
      rw [h2] at hb hc
      have e3 := is_whole n (.int T[i].1) 0 i (nof_int _)
      have e4 := is_whole n (.int T[i].2) 0 1000000 (nof_int _)
      have w3 : whole (.int T[i].1) 0 i = true := by simp [whole]; omega
      have w4 : whole (.int T[i].2) 0 1000000 = true := by simp [whole]; omega
      rw [w3] at e3
      rw [w4] at e4
      simp only [Nat.zero_add, pD]
      simp? only [lcG, ix0, ix1, e3, e4]
  · intro x hx
    obtain ⟨p, _, rfl⟩ := List.mem_map.1 hx
    have e2 := is_tuple_of n (pD p) 2 2 (nofT _)
    rw [show tupOf (pD p) 2 2 = true from rfl] at e2
    simp only [pD] at *
    simp? only [lcG, e2]
theorem need_tree (n : Nat) {T : List (Int × Int)} (h : Tr T) : (runs prg (n+3)).1 6 [.d (tD T)] = .ok (.d .non, [none]) := by
  have e := is_tree n h
  rw [run_s (n+2) 6 _ d_need_tree rfl]
  simp? only [d_need_tree, b_need_tree, e]
/-! the law's way, branch, cost -/
theorem way_loop (n : Nat) {T : List (Int × Int)} (h : Tr T) : ∀ (m : Nat) (lo x : Int) (L : List Int) (o3 : Option E), x < T.length → L.length + m ≤ 100 → ∃ q1 q3, forL (fB (mkCalls prg n (runs prg n)) (.nm 3) (fbS (hdS 1 b__law_way))) (rangeL lo m) [some (.d (tD T)), some (.d (.int (x + 1))), some (.l (L.map .int)), o3] = .nx [some (.d (tD T)), q1, some (.l ((L ++ upN T m x).map .int)), q3] := by
  intro m
  induction m with
  | zero => intro lo x L o3 hx hl; exact ⟨some (.d (.int (x + 1))), o3, by simp [rangeL, forL, upN]⟩
  | succ m ih =>
    intro lo x L o3 hx hl
    by_cases h0 : 0 ≤ x
    · have hb := h.b x h0 hx
      have e1 := ixT T h0 hx
      have hf : few L.length = true := few_leU (by omega)
      have hp : (0 : Int) < x + 1 := by omega
      obtain ⟨q1, q3, e⟩ := ih (lo + 1) (bf T x - 1) (L ++ [x]) (some (.d (.int lo))) (by omega) (by simp; omega)
      refine ⟨q1, q3, ?_⟩
      have hx1 : x + 1 - 1 = x := by omega
      have hb1 : bf T x - 1 + 1 = bf T x := by omega
      have e2 : fB (mkCalls prg n (runs prg n)) (.nm 3) (fbS (hdS 1 b__law_way)) (.int lo) [some (.d (tD T)), some (.d (.int (x + 1))), some (.l (L.map .int)), o3] = .nx [some (.d (tD T)), some (.d (.int (bf T x - 1 + 1))), some (.l ((L ++ [x]).map .int)), some (.d (.int lo))] := by
        rw [hb1]
        simp only [tD]
        simp? only [fB, fbS, hdS, b__law_way, hp, hx1, hf, e1, ix0, List.map_append]
      rw [rangeL, forL_nx e2, e]
      simp only [upN, if_pos h0, List.append_assoc, List.cons_append, List.nil_append]
    · have hp : ¬ (0 : Int) < x + 1 := by omega
      obtain ⟨q1, q3, e⟩ := ih (lo + 1) x L (some (.d (.int lo))) hx (by omega)
      refine ⟨q1, q3, ?_⟩
      have e2 : fB (mkCalls prg n (runs prg n)) (.nm 3) (fbS (hdS 1 b__law_way)) (.int lo) [some (.d (tD T)), some (.d (.int (x + 1))), some (.l (L.map .int)), o3] = .nx [some (.d (tD T)), some (.d (.int (x + 1))), some (.l (L.map .int)), some (.d (.int lo))] := by
        simp only [tD]
        simp? only [fB, fbS, hdS, b__law_way, hp]
      rw [rangeL, forL_nx e2, e, upN_neg T m (by omega), upN_neg T (m + 1) (by omega)]
theorem rngT {T : List (Int × Int)} (h : Tr T) : rngL 1 [.int (T.length : Int)] = some ((idx T.length).map .int) := by
  have h30 := h.l30
  have r := rng1_map (b := (T.length : Int)) (small_of (by omega) (by omega)) (by omega)
  rw [show ((T.length : Nat) : Int).toNat = T.length by omega] at r
  exact r
theorem law_way (n : Nat) {T : List (Int × Int)} (h : Tr T) {x : Int} (hx : x < T.length) : (runs prg (n+1)).1 23 [.d (tD T), .d (.int (x + 1))] = .ok (.l ((up T x).map .int), [none, none]) := by
  have h30 := h.l30
  obtain ⟨q1, q3, e⟩ := way_loop n h T.length 0 x [] none hx (by simp; omega)
  have r := rngT h
  rw [run_s n 23 _ d__law_way rfl]
  rw [rangeL_rng] at e
  simp only [tD, fbS, hdS, b__law_way, List.map_nil, List.nil_append] at e
  simp only [tD]
  rw [show rngA 0 T.length = idx T.length from rfl] at e
  simp? only [d__law_way, b__law_way, r, e, up]
theorem contains_dec (L : List Int) (b : Int) : L.contains b = decide (b ∈ L) := by
  rw [Bool.eq_iff_iff]
  simp
theorem law_branch (n : Nat) {T : List (Int × Int)} (h : Tr T) (b : Int) : (runs prg (n+2)).1 24 [.d (tD T), .d (.int (b + 1))] = .ok (.l ((desc T b).map .int), [none, none]) := by
  have r := rngT h
  rw [run_s (n+1) 24 _ d__law_branch rfl]
  have hb1 : b + 1 - 1 = b := by omega
  simp only [tD]
  simp? only [d__law_branch, b__law_branch, r]
  rw [lcL_filtm (fun x => decide (b ∈ up T x))]
  · simp? only [desc]
  · intro z hz
    have hz2 := (mem_idx _ _).1 hz
    have e := law_way n h (x := z) hz2.2
    simp only [tD] at e
    cases hd : decide (b ∈ up T z) <;> simp? only [lcG, e, hb1, inD_int, contains_dec, hd]
theorem law_cost (n : Nat) {T : List (Int × Int)} (h : Tr T) (b : Int) : (runs prg (n+3)).1 25 [.d (tD T), .d (.int (b + 1))] = .ok (.d (.int (cst T b)), [none, none]) := by
  have e := law_branch n h b
  rw [run_s (n+2) 25 _ d__law_cost rfl]
  simp only [tD] at *
  simp? only [d__law_cost, b__law_cost, e]
  rw [lcL_mapI (cs T)]
  · simp? only [asI_int, cst]
  · intro z hz
    have hz2 := (mem_desc T b z).1 hz
    have e1 := ixT T hz2.1 hz2.2.1
    simp? only [lcG, e1, ix1]
end P72M
end
section
set_option linter.all false
set_option maxRecDepth 100000
set_option maxHeartbeats 4000000
namespace P72M
open P72
open PySem EV EU
open L2 (Key)
set_option autoImplicit false
theorem lcL_mapD {f : D → EV.Env → R (Option D × EV.Env)} {ρ : EV.Env} {α : Type} (enc : α → D) (g : α → D) : ∀ {L : List α}, (∀ z ∈ L, f (enc z) ρ = .ok (some (g z), ρ)) → lcL f (L.map enc) ρ = .ok (L.map g, ρ) := by
  intro L
  induction L with
  | nil => intro _; rfl
  | cons a r ih =>
    intro h
    simp only [List.map_cons, lcL, h a (by simp), ih (fun x hx => h x (List.mem_cons_of_mem _ hx))]
    rfl
theorem ixN_nn {n : Nat} {i : Int} (h0 : 0 ≤ i) (hi : i < n) : L2.ixN n i = some i.toNat := by
  simp [L2.ixN, h0, hi]
theorem ixM (f : Int → D) (n : Nat) {i : Int} (h0 : 0 ≤ i) (hi : i < n) : ixD ((idx n).map f) i = some (f i) := by
  have hl : (idx n).length = n := rngA_len _ _
  have h1 : (idx n)[i.toNat]? = some i := by
    unfold idx
    rw [rngA_get n 0 i.toNat (by omega)]
    congr 1; omega
  have h2 := ixN_nn h0 hi
  unfold ixD
  rw [List.length_map, hl, h2]
  show ((idx n).map f)[i.toNat]? = _
  rw [List.getElem?_map, h1]
  rfl
theorem idxmap_set (f : Int → D) (n : Nat) {j : Int} (h0 : 0 ≤ j) (hj : j < n) (v : D) : ((idx n).map f).set j.toNat v = (idx n).map fun i => if i = j then v else f i := by
  have hl : (idx n).length = n := rngA_len _ _
  apply List.ext_getElem?
  intro i
  by_cases hi : i < n
  · have h1 : (idx n)[i]? = some (i : Int) := by
      unfold idx
      rw [rngA_get n 0 i hi]
      congr 1; omega
    by_cases e : i = j.toNat
    · subst e
      rw [List.getElem?_set_self (by rw [List.length_map, hl]; exact hi), List.getElem?_map, h1]
      simp; omega
    · rw [List.getElem?_set_ne (Ne.symm e), List.getElem?_map, List.getElem?_map, h1]
      have : ¬ (i : Int) = j := by omega
      simp [this]
  · rw [List.getElem?_eq_none (by rw [List.length_set, List.length_map, hl]; omega), List.getElem?_eq_none (by rw [List.length_map, hl]; omega)]
abbrev brB : Ss := fbS (hdS 1 b_branches)
def brL (n : Nat) (F : Int → List Int) : List D := (idx n).map fun i => lI (F i)
theorem br_turn (n : Nat) {T : List (Int × Int)} (h : Tr T) (m : Nat) (hm : m < T.length) (F : Int → List Int) (b : BrI T (m + 1) F) (o2 o3 : Option E) : ∃ F' q2 q3, BrI T m F' ∧ fB (mkCalls prg n (runs prg n)) (.nm 2) brB (.int m) [some (.d (tD T)), some (.l (brL T.length F)), o2, o3, none] = .nx [some (.d (tD T)), some (.l (brL T.length F')), q2, q3, none] := by
  have h30 := h.l30
  have e1 := ixT T (x := (m : Int)) (by omega) (by omega)
  have hb := h.b m (by omega) (by omega)
  by_cases hp : 0 < bf T m
  · have e2 := ixM (fun i => lI (F i)) T.length (i := bf T m - 1) (by omega) (by omega)
    have e3 := ixM (fun i => lI (F i)) T.length (i := (m : Int)) (by omega) (by omega)
    have hl : ((idx T.length).map fun i => lI (F i)).length = T.length := by rw [List.length_map]; exact rngA_len _ _
    have hix : L2.ixN T.length (bf T m - 1) = some (bf T m - 1).toNat := ixN_nn (by omega) (by omega)
    have hlen : ∀ i : Int, 0 ≤ i → i < T.length → (F i).length ≤ 30 := fun i i0 hi => by
      have hs := b i i0 hi
      have h1 := asc_len (sortI (F i)) 0 T.length (sortI_asc hs.1) (fun x hx => by
        have := (hs.2 x).1 ((ordI_perm (F i)).mem_iff.1 hx); omega)
      rw [(ordI_perm (F i)).length_eq] at h1
      omega
    have hfew : few ((F (bf T m - 1)).length + (F m).length) = true := few_leU (by have := hlen (bf T m - 1) (by omega) (by omega); have := hlen m (by omega) (by omega); omega)
    refine ⟨_, some (.d (.int m)), some (.d (.int (bf T m))), b.step h hm hp, ?_⟩
    have hset := idxmap_set (fun i => lI (F i)) T.length (j := bf T m - 1) (by omega) (by omega) (.lst ((F (bf T m - 1)).map .int ++ (F m).map .int))
    have hfin : brL T.length (fun i => if i = bf T m - 1 then F i ++ F m else F i) = ((idx T.length).map fun i => if i = bf T m - 1 then D.lst ((F (bf T m - 1)).map .int ++ (F m).map .int) else lI (F i)) := by
      unfold brL
      apply List.map_congr_left
      intro i _
      by_cases e : i = bf T m - 1
      · simp only [if_pos e]; rw [e]; unfold lI; rw [List.map_append]
      · simp only [if_neg e]
    rw [hfin, ← hset]
    simp only [brL, lI, tD] at *
    simp? only [fB, brB, fbS, hdS, b_branches, e1, ix0, hp, e2, e3, hfew, hl, hix]
  · refine ⟨F, some (.d (.int m)), some (.d (.int (bf T m))), b.skip h hm hp, ?_⟩
    simp only [tD] at *
    simp? only [fB, brB, fbS, hdS, b_branches, e1, ix0, hp]
theorem br_loop (n : Nat) {T : List (Int × Int)} (h : Tr T) : ∀ (m : Nat), m ≤ T.length → ∀ (F : Int → List Int), BrI T m F → ∀ (o2 o3 : Option E), ∃ F' q2 q3, BrI T 0 F' ∧ forL (fB (mkCalls prg n (runs prg n)) (.nm 2) brB) ((dwn m).map .int) [some (.d (tD T)), some (.l (brL T.length F)), o2, o3, none] = .nx [some (.d (tD T)), some (.l (brL T.length F')), q2, q3, none] := by
  intro m
  induction m with
  | zero => intro hm F b o2 o3; exact ⟨F, o2, o3, b, rfl⟩
  | succ m ih =>
    intro hm F b o2 o3
    obtain ⟨F1, q2, q3, b1, e1⟩ := br_turn n h m (by omega) F b o2 o3
    obtain ⟨F2, r2, r3, b2, e2⟩ := ih (by omega) F1 b1 q2 q3
    refine ⟨F2, r2, r3, b2, ?_⟩
    simp only [dwn, List.map_cons]
    rw [forL_nx e1, e2]
def descs (T : List (Int × Int)) : List D := (idx T.length).map fun i => lI (desc T i)
theorem rng_dwnT {T : List (Int × Int)} (h : Tr T) : rngL 3 [.int ((T.length : Int) - 1), .int (-1), .int (-1)] = some ((dwn T.length).map .int) := by
  have h30 := h.l30
  have s1 : small ((T.length : Int) - 1) = true := small_of (by omega) (by omega)
  have s2 : small (-1) = true := small_of (by omega) (by omega)
  have e : ((T.length : Int) - 1 - -1).toNat = T.length := by omega
  simp -implicitDefEqProofs only [rngL, s1, s2, e, dwn_eq, few_leU (n := T.length) (by omega), Bool.and_self, decide_true, if_true]
theorem branches (n : Nat) {T : List (Int × Int)} (h : Tr T) : (runs prg (n+1)).1 7 [.d (tD T)] = .ok (.l (descs T), [none]) := by
  have h30 := h.l30
  have r1 := rngT h
  have r3 := rng_dwnT h
  obtain ⟨F, q2, q3, b, e⟩ := br_loop n h T.length (Nat.le_refl _) _ (BrI.init T) none none
  rw [run_s n 7 _ d_branches rfl]
  simp only [brL, lI, tD, brB, fbS, hdS, b_branches, List.map_cons, List.map_nil] at e
  simp only [tD]
  simp? only [d_branches, b_branches, r1]
  rw [lcL_mapD D.int fun i => .lst [.int i]]
  · simp? only [r3, e]
    rw [lcL_mapD (fun i => D.lst ((F i).map .int)) fun i => lI (desc T i)]
    · simp? only [descs]
    · intro z hz
      have hz2 := (mem_idx _ _).1 hz
      have hs := b.sorted h hz2.1 hz2.2
      have hl : few (F z).length = true := few_leU (by
        have h1 := (ordI_perm (F z)).length_eq
        rw [hs] at h1
        have := desc_len T z
        omega)
      simp? only [lcG, asI_int, hl, hs, lI]
  · intro z hz
    simp? only [lcG]
theorem costs_in (n : Nat) {T : List (Int × Int)} (h : Tr T) : (runs prg (n+2)).1 8 [.d (tD T)] = .ok (.l ((idx T.length).map fun i => .int (cst T i)), [none]) := by
  have e := branches n h
  rw [run_s (n+1) 8 _ d_costs_in rfl]
  simp only [tD, descs] at *
  simp? only [d_costs_in, b_costs_in, e]
  rw [lcL_mapD (fun i => lI (desc T i)) fun i => .int (cst T i)]
  · simp? only []
  · intro z hz
    simp only [lI]
    simp? only [lcG]
    rw [lcL_mapI (cs T)]
    · simp? only [asI_int, cst]
    · intro y hy
      have hy2 := (mem_desc T z y).1 hy
      have e1 := ixT T hy2.1 hy2.2.1
      simp? only [lcG, e1, ix1]
end P72M
end
section
set_option linter.all false
set_option maxRecDepth 100000
set_option maxHeartbeats 4000000
namespace P72M
open P72
open PySem EV EU
open L2 (Key)
set_option autoImplicit false
def qs (n : Nat) (g : Int → Rat) : List D := (idx n).map fun x => qD (g x)
def addAt (g : Int → Rat) (s : Rat) (a : Int) : Int → Rat := fun x => if x = a then g x + s else g x
theorem qs_set (n : Nat) (g : Int → Rat) (s : Rat) {a : Int} (h0 : 0 ≤ a) (ha : a < n) : (qs n g).set a.toNat (qD (g a + s)) = qs n (addAt g s a) := by
  unfold qs
  rw [idxmap_set (fun x => qD (g x)) n h0 ha]
  apply List.map_congr_left
  intro x _
  unfold addAt
  by_cases e : x = a
  · rw [if_pos e, if_pos e, e]
  · rw [if_neg e, if_neg e]
theorem upd_loop {f : D → EV.Env → SR} (n : Nat) (env : List D → Option E → EV.Env) (s : Rat) : ∀ (B : List Int) (g : Int → Rat) (o : Option E), B.Nodup → (∀ a ∈ B, ∀ g' o', g' a = g a → f (.int a) (env (qs n g') o') = .nx (env (qs n (addAt g' s a)) (some (.d (.int a))))) → ∃ o', forL f (B.map .int) (env (qs n g) o) = .nx (env (qs n fun x => if x ∈ B then g x + s else g x) o') := by
  intro B
  induction B with
  | nil => intro g o _ _; exact ⟨o, by simp [forL]⟩
  | cons a r ih =>
    intro g o hnd hf
    have hnd2 := List.nodup_cons.1 hnd
    obtain ⟨o', e⟩ := ih (addAt g s a) (some (.d (.int a))) hnd2.2 fun b hb g' o' hg => hf b (List.mem_cons_of_mem _ hb) g' o' (by
      rw [hg]
      unfold addAt
      rw [if_neg fun e => hnd2.1 (by rw [← e]; exact hb)])
    refine ⟨o', ?_⟩
    rw [List.map_cons, forL_nx (hf a (by simp) g o rfl), e]
    congr 2
    congr 1
    funext x
    unfold addAt
    by_cases h1 : x = a
    · subst h1
      simp [hnd2.1]
    · simp [h1]
theorem lowP_shr (T : List (Int × Int)) (l : Int) : lowP (cs T l) ((desc T l).length : Int) = shr T l := by
  unfold lowP shr csQ
  push_cast
  rfl
theorem ev_next (T : List (Int × Int)) (m : Nat) : (fun x => if x ∈ desc T m then ev T m x + shr T m else ev T m x) = fun x => if x ∈ desc T m then ev T m x + shr T m else ev T m x := rfl
theorem qs_ev {T : List (Int × Int)} (h : Tr T) (m : Nat) : qs T.length (fun x => if x ∈ desc T m then ev T m x + shr T m else ev T m x) = qs T.length (ev T (m + 1)) := by
  unfold qs
  apply List.map_congr_left
  intro x hx
  have hx2 := (mem_idx _ _).1 hx
  simp only []
  congr 1
  rw [ev_succ]
  unfold part
  by_cases e : x ∈ desc T m
  · rw [if_pos e]
    have := ((mem_desc T m x).1 e).2.2
    simp [this]
  · rw [if_neg e]
    have : (m : Int) ∉ up T x := fun hm => e ((mem_desc T m x).2 ⟨hx2.1, hx2.2, hm⟩)
    simp [this]
    exact (Rat.add_zero _).symm
theorem qs_ev0 (T : List (Int × Int)) : qs T.length (ev T 0) = (idx T.length).map fun _ => D.tup [.int 0, .int 1] := by
  unfold qs
  apply List.map_congr_left
  intro x _
  rfl
theorem shr_Sm {T : List (Int × Int)} (h : Tr T) {l : Int} (h0 : 0 ≤ l) (hl : l < T.length) : Sm (shr T l) := by
  have h1 := shr_nonneg h h0 hl
  have h2 := shr_le h h0 hl
  exact (Gq.of (by grind) (by grind) (shr_M h h0 hl)).sm
theorem len_500 (T : List (Int × Int)) (h : Tr T) (l : Int) : (((desc T l).length : Int)).natAbs < 2 ^ 500 := by
  have h1 := desc_len T l
  have h2 := h.l30
  have h3 : 31 ≤ 2 ^ 500 := Nat.le_trans (by decide : 31 ≤ 2 ^ 5) (Nat.pow_le_pow_right (by omega) (by omega))
  rw [Int.natAbs_natCast]
  omega
theorem flat_rep (n : Nat) (x : D) : (List.replicate n [x]).flatten = (idx n).map fun _ => x := by
  have : ∀ lo, (rngA lo n).map (fun _ => x) = (List.replicate n [x]).flatten := by
    induction n with
    | zero => intro lo; rfl
    | succ n ih => intro lo; rw [rngA, List.map_cons, ih, List.replicate_succ, List.flatten_cons]; rfl
  exact (this 0).symm
theorem mul_rep (x : D) {n : Nat} (hn : n ≤ 1000) : pMul [.lst [x], .int (n : Int)] = some (.l ((idx n).map fun _ => x)) := by
  have hs : small (n : Int) = true := small_of (by omega) (by omega)
  have hf : few (1 * n) = true := few_leU (by omega)
  have ht : ((n : Nat) : Int).toNat = n := by omega
  simp -implicitDefEqProofs only [pMul, hs, List.length_cons, List.length_nil, Nat.zero_add, ht, hf, Bool.and_self, if_true, flat_rep]
/-! the program's even amounts -/
abbrev evB : Ss := fbS (hdS 2 b_even_amounts)
theorem ev_in (n : Nat) {T : List (Int × Int)} (h : Tr T) (m : Nat) (hm : m < T.length) (a : Int) (ha0 : 0 ≤ a) (ha : a < T.length) (g : Int → Rat) (hg : Sm (g a)) (o4 : Option E) : fB (mkCalls prg (n+2) (runs prg (n+2))) (.nm 4) (fbS (hdS 0 evB)) (.int a) [some (.d (tD T)), some (.l (qs T.length g)), some (.d (.int m)), some (.d (lI (desc T m))), o4] = .nx [some (.d (tD T)), some (.l (qs T.length (addAt g (shr T m) a))), some (.d (.int m)), some (.d (lI (desc T m))), some (.d (.int a))] := by
  have e1 := ixM (fun x => qD (g x)) T.length ha0 ha
  have e2 := ixT T (x := (m : Int)) (by omega) (by omega)
  have hdp := desc_pos h (b := (m : Int)) (by omega) (by omega)
  have e3 := in_lowest (n+1) (cs T m) ((desc T m).length : Int) (by omega) (len_500 T h m)
  rw [lowP_shr] at e3
  have e4 := sum_of n hg (shr_Sm h (l := (m : Int)) (by omega) (by omega))
  have hl : (qs T.length g).length = T.length := by unfold qs; rw [List.length_map]; exact rngA_len _ _
  have hix := ixN_nn ha0 ha
  rw [← qs_set T.length g _ ha0 ha]
  have e1' : ixD (qs T.length g) a = some (qD (g a)) := e1
  simp only [tD, lI] at *
  simp? only [fB, evB, fbS, hdS, b_even_amounts, e1', e2, ix1, e3, e4, hl, hix]
theorem ev_turn (n : Nat) {T : List (Int × Int)} (h : Tr T) (m : Nat) (hm : m < T.length) (o2 o3 o4 : Option E) : ∃ q4, fB (mkCalls prg (n+2) (runs prg (n+2))) (.tp [2, 3]) evB (.tup [.int m, lI (desc T m)]) [some (.d (tD T)), some (.l (qs T.length (ev T m))), o2, o3, o4] = .nx [some (.d (tD T)), some (.l (qs T.length (ev T (m + 1)))), some (.d (.int m)), some (.d (lI (desc T m))), q4] := by
  obtain ⟨q4, e⟩ := upd_loop (f := fB (mkCalls prg (n+2) (runs prg (n+2))) (.nm 4) (fbS (hdS 0 evB))) T.length (fun L o => [some (.d (tD T)), some (.l L), some (.d (.int m)), some (.d (lI (desc T m))), o]) (shr T m) (desc T m) (ev T m) o4 (asc_nodup (desc_asc T m)) (fun a ha g' o' hg => by
    have ha2 := (mem_desc T m a).1 ha
    exact ev_in n h m hm a ha2.1 ha2.2.1 g' (by rw [hg]; exact (ev_G h a m (by omega)).sm) o')
  rw [qs_ev h m] at e
  refine ⟨q4, ?_⟩
  simp only [evB, fbS, hdS, b_even_amounts, tD, lI] at e ⊢
  simp? only [fB, e]
theorem ev_loop (n : Nat) {T : List (Int × Int)} (h : Tr T) : ∀ (k m : Nat), m + k = T.length → ∀ (o2 o3 o4 : Option E), ∃ q2 q3 q4, forL (fB (mkCalls prg (n+2) (runs prg (n+2))) (.tp [2, 3]) evB) (enumL m ((rngA m k).map fun i => lI (desc T i))) [some (.d (tD T)), some (.l (qs T.length (ev T m))), o2, o3, o4] = .nx [some (.d (tD T)), some (.l (qs T.length (ev T T.length))), q2, q3, q4] := by
  intro k
  induction k with
  | zero => intro m hm o2 o3 o4; have : m = T.length := by omega
            subst this; exact ⟨o2, o3, o4, rfl⟩
  | succ k ih =>
    intro m hm o2 o3 o4
    obtain ⟨q4, e⟩ := ev_turn n h m (by omega) o2 o3 o4
    obtain ⟨r2, r3, r4, e2⟩ := ih (m + 1) (by omega) (some (.d (.int m))) (some (.d (lI (desc T m)))) q4
    refine ⟨r2, r3, r4, ?_⟩
    rw [rngA, List.map_cons, enumL, forL_nx e]
    exact e2
theorem even_amounts (n : Nat) {T : List (Int × Int)} (h : Tr T) : (runs prg (n+4)).1 9 [.d (tD T)] = .ok (.d (.tup (qs T.length (ev T T.length))), [none]) := by
  have h30 := h.l30
  have e1 := need_tree n h
  have e2 := branches (n+2) h
  obtain ⟨q2, q3, q4, e⟩ := ev_loop (n+1) h T.length 0 (by omega) none none none
  have hm := mul_rep (D.tup [.int 0, .int 1]) (n := T.length) (by omega)
  rw [qs_ev0] at e
  rw [run_s (n+3) 9 _ d_even_amounts rfl]
  simp only [evB, fbS, hdS, b_even_amounts, tD] at e
  rw [show (rngA ((0 : Nat) : Int) T.length).map (fun i => lI (desc T i)) = descs T from rfl] at e
  simp only [tD] at *
  simp_all? only [pAdd, pSub, pFdiv, pMod, pPow, pNeg, pEq, pNe, pLt, pLe, pGt, pGe, pIsin, pNotin, pIsnone, pNotnone, pIsb, pIsnotb, pIx, pSlc, pRev, pLen, pAbs, pInt, pList, pTuple, pSum, pMax2, pMin2, pMaxL, pMinL, pMinT, pAny, pAll, pSorted, pGcd, pDictK, pIsinst, pLrange, pTrange, pTup, pLst, pNewK, pNewT, inst, setE, scalD, scEq, d_even_amounts, b_even_amounts, e1, e2, hm, List.length_map, e]
/-! the law's -/
abbrev lvB : Ss := fbS (hdS 1 b__law_right)
theorem lv_in (n : Nat) {T : List (Int × Int)} (h : Tr T) (m : Nat) (hm : m < T.length) (a : Int) (ha0 : 0 ≤ a) (ha : a < T.length) (g : Int → Rat) (hg : Sm (g a)) (o4 e5 e6 e7 e8 e9 e10 e11 e12 : Option E) : fB (mkCalls prg (n+2) (runs prg (n+2))) (.nm 4) (fbS (hdS 1 lvB)) (.int a) [some (.d (tD T)), some (.l (qs T.length g)), some (.d (.int m)), some (.d (lI (desc T m))), o4, e5, e6, e7, e8, e9, e10, e11, e12] = .nx [some (.d (tD T)), some (.l (qs T.length (addAt g (shr T m) a))), some (.d (.int m)), some (.d (lI (desc T m))), some (.d (.int a)), e5, e6, e7, e8, e9, e10, e11, e12] := by
  have e1 := ixM (fun x => qD (g x)) T.length ha0 ha
  have e2 := ixT T (x := (m : Int)) (by omega) (by omega)
  have hdp := desc_pos h (b := (m : Int)) (by omega) (by omega)
  have e3 := law_low (n+1) (cs T m) ((desc T m).length : Int) (by omega) (Nat.lt_of_lt_of_le (len_500 T h m) (Nat.pow_le_pow_right (by omega) (by omega)))
  rw [lowP_shr] at e3
  have e4 := law_add n hg (shr_Sm h (l := (m : Int)) (by omega) (by omega))
  have hl : (qs T.length g).length = T.length := by unfold qs; rw [List.length_map]; exact rngA_len _ _
  have hix := ixN_nn ha0 ha
  rw [← qs_set T.length g _ ha0 ha]
  have e1' : ixD (qs T.length g) a = some (qD (g a)) := e1
  simp only [tD, lI] at *
  simp? only [fB, lvB, fbS, hdS, b__law_right, e1', e2, ix1, e3, e4, hl, hix]
theorem lv_turn (n : Nat) {T : List (Int × Int)} (h : Tr T) (m : Nat) (hm : m < T.length) (o2 o3 o4 e5 e6 e7 e8 e9 e10 e11 e12 : Option E) : ∃ q3 q4, fB (mkCalls prg (n+2) (runs prg (n+2))) (.nm 2) lvB (.int m) [some (.d (tD T)), some (.l (qs T.length (ev T m))), o2, o3, o4, e5, e6, e7, e8, e9, e10, e11, e12] = .nx [some (.d (tD T)), some (.l (qs T.length (ev T (m + 1)))), some (.d (.int m)), q3, q4, e5, e6, e7, e8, e9, e10, e11, e12] := by
  obtain ⟨q4, e⟩ := upd_loop (f := fB (mkCalls prg (n+2) (runs prg (n+2))) (.nm 4) (fbS (hdS 1 lvB))) T.length (fun L o => [some (.d (tD T)), some (.l L), some (.d (.int m)), some (.d (lI (desc T m))), o, e5, e6, e7, e8, e9, e10, e11, e12]) (shr T m) (desc T m) (ev T m) o4 (asc_nodup (desc_asc T m)) (fun a ha g' o' hg => by
    have ha2 := (mem_desc T m a).1 ha
    exact lv_in n h m hm a ha2.1 ha2.2.1 g' (by rw [hg]; exact (ev_G h a m (by omega)).sm) o' _ _ _ _ _ _ _ _)
  rw [qs_ev h m] at e
  have eb := law_branch n h m
  refine ⟨some (.d (lI (desc T m))), q4, ?_⟩
  simp only [lvB, fbS, hdS, b__law_right, tD, lI] at e eb ⊢
  simp? only [fB, eb, e]
theorem lv_loop (n : Nat) {T : List (Int × Int)} (h : Tr T) (e5 e6 e7 e8 e9 e10 e11 e12 : Option E) : ∀ (k m : Nat), m + k = T.length → ∀ (o2 o3 o4 : Option E), ∃ q2 q3 q4, forL (fB (mkCalls prg (n+2) (runs prg (n+2))) (.nm 2) lvB) ((rngA m k).map .int) [some (.d (tD T)), some (.l (qs T.length (ev T m))), o2, o3, o4, e5, e6, e7, e8, e9, e10, e11, e12] = .nx [some (.d (tD T)), some (.l (qs T.length (ev T T.length))), q2, q3, q4, e5, e6, e7, e8, e9, e10, e11, e12] := by
  intro k
  induction k with
  | zero => intro m hm o2 o3 o4; have : m = T.length := by omega
            subst this; exact ⟨o2, o3, o4, rfl⟩
  | succ k ih =>
    intro m hm o2 o3 o4
    obtain ⟨q3, q4, e⟩ := lv_turn n h m (by omega) o2 o3 o4 e5 e6 e7 e8 e9 e10 e11 e12
    obtain ⟨r2, r3, r4, e2⟩ := ih (m + 1) (by omega) (some (.d (.int m))) q3 q4
    refine ⟨r2, r3, r4, ?_⟩
    rw [rngA, List.map_cons, forL_nx e]
    exact e2
end P72M
end
section
set_option linter.all false
set_option maxRecDepth 100000
set_option maxHeartbeats 4000000
namespace P72M
open P72
open PySem EV EU
open L2 (Key)
set_option autoImplicit false
/-! what can be laid down, so deep -/
def Ly (k : Nat) (v : D) : Prop := ∃ p, v.py = some p ∧ p.canLay0 = true ∧ p.depth ≤ k
theorem Lys {k : Nat} : ∀ {xs : List D}, (∀ x ∈ xs, Ly k x) → ∃ ps, pyL xs = some ps ∧ PyData.canLayAll0 ps = true ∧ PyData.depthAll ps ≤ k ∧ ps.length = xs.length := by
  intro xs
  induction xs with
  | nil => intro _; exact ⟨[], rfl, rfl, by simp [PyData.depthAll], rfl⟩
  | cons a r ih =>
    intro h
    obtain ⟨p, h1, h2, h3⟩ := h a (by simp)
    obtain ⟨ps, g1, g2, g3, g4⟩ := ih fun x hx => h x (List.mem_cons_of_mem _ hx)
    exact ⟨p :: ps, by simp [pyL, h1, g1], by simp [PyData.canLayAll0, h2, g2], by simp only [PyData.depthAll]; omega, by simp [g4]⟩
theorem Ly.int (k : Nat) (i : Int) : Ly (k + 1) (.int i) := ⟨_, rfl, rfl, by simp [PyData.depth]⟩
theorem Ly.tup {k : Nat} {xs : List D} (h : ∀ x ∈ xs, Ly k x) : Ly (k + 1) (.tup xs) := by
  obtain ⟨ps, h1, h2, h3, _⟩ := Lys h
  exact ⟨.tuple ps, by simp [D.py, h1], by simp [PyData.canLay0, h2], by simp only [PyData.depth]; omega⟩
theorem Ly.lst {k : Nat} {xs : List D} (h : ∀ x ∈ xs, Ly k x) : Ly (k + 1) (.lst xs) := by
  obtain ⟨ps, h1, h2, h3, _⟩ := Lys h
  exact ⟨.list ps, by simp [D.py, h1], by simp [PyData.canLay0, h2], by simp only [PyData.depth]; omega⟩
theorem Ly.lI (k : Nat) (L : List Int) : Ly (k + 2) (lI L) := .lst fun x hx => by
  obtain ⟨i, _, rfl⟩ := List.mem_map.1 hx
  exact .int _ _
theorem Ly.q (k : Nat) (q : Rat) : Ly (k + 2) (qD q) := .tup fun x hx => by
  simp only [List.mem_cons, List.not_mem_nil, or_false] at hx
  rcases hx with h | h <;> subst h <;> exact .int _ _
theorem Ly.p (k : Nat) (q : Int × Int) : Ly (k + 2) (pD q) := .tup fun x hx => by
  simp only [List.mem_cons, List.not_mem_nil, or_false] at hx
  rcases hx with h | h <;> subst h <;> exact .int _ _
theorem eqD_empT {xs : List D} (h : ∀ x ∈ xs, Ly 50 x) : eqD (.tup xs) (.tup []) = some xs.isEmpty := by
  obtain ⟨ps, h1, h2, h3, h4⟩ := Lys h
  unfold eqD
  simp only [scalD, Bool.false_eq_true, if_false, D.py, h1, Option.map_some, pyL]
  have h5 : min (PyData.tuple ps).depth (PyData.tuple []).depth ≤ 64 := by simp only [PyData.depth]; omega
  simp only [PyData.canLay0, h2, PyData.canLayAll0, h5, decide_true, Bool.and_self, if_true, PyData.eqv]
  cases xs with
  | nil => cases ps with
    | nil => rfl
    | cons p ps => simp at h4
  | cons x xs => cases ps with
    | nil => simp at h4
    | cons p ps => simp [PyData.eqvAll]
theorem eqD_empL {xs : List D} (h : ∀ x ∈ xs, Ly 50 x) : eqD (.lst xs) (.lst []) = some xs.isEmpty := by
  obtain ⟨ps, h1, h2, h3, h4⟩ := Lys h
  unfold eqD
  simp only [scalD, Bool.false_eq_true, if_false, D.py, h1, Option.map_some, pyL]
  have h5 : min (PyData.list ps).depth (PyData.list []).depth ≤ 64 := by simp only [PyData.depth]; omega
  simp only [PyData.canLay0, h2, PyData.canLayAll0, h5, decide_true, Bool.and_self, if_true, PyData.eqv]
  cases xs with
  | nil => cases ps with
    | nil => rfl
    | cons p ps => simp at h4
  | cons x xs => cases ps with
    | nil => simp at h4
    | cons p ps => simp [PyData.eqvAll]
/-! peaks -/
def pk (T : List (Int × Int)) (b : Int) : Rat := (cst T b : Rat) / ((desc T b).length : Rat)
theorem lowP_pk (T : List (Int × Int)) (b : Int) : lowP (cst T b) ((desc T b).length : Int) = pk T b := by
  unfold lowP pk
  push_cast
  rfl
theorem pk_eq {T : List (Int × Int)} (h : Tr T) {b : Int} (h0 : 0 ≤ b) (hb : b < T.length) : pk T b * ((desc T b).length : Rat) = (cst T b : Rat) := by
  have hp : (0 : Rat) < ((desc T b).length : Rat) := Rat.natCast_pos.2 (desc_pos h h0 hb)
  exact Rat.div_mul_cancel (Rat.ne_of_gt hp)
theorem cs_sum {T : List (Int × Int)} (h : Tr T) : ∀ (L : List Int), (∀ x ∈ L, 0 ≤ x ∧ x < T.length) → 0 ≤ (L.map (cs T)).sum ∧ (L.map (cs T)).sum ≤ (L.length : Int) * 1000000 := by
  intro L
  induction L with
  | nil => intro _; simp
  | cons a r ih =>
    intro hL
    have h1 := hL a (by simp)
    have h2 := h.c a h1.1 h1.2
    have h3 := ih fun x hx => hL x (List.mem_cons_of_mem _ hx)
    simp only [List.map_cons, List.sum_cons, List.length_cons]
    omega
theorem mean_G {T : List (Int × Int)} (h : Tr T) {L : List Int} (hne : L ≠ []) (hl : L.length ≤ 30) (hL : ∀ x ∈ L, 0 ≤ x ∧ x < T.length) {p : Rat} (hp : p * (L.length : Rat) = (((L.map (cs T)).sum : Int) : Rat)) : 0 ≤ p ∧ p ≤ 1000000 ∧ Gq p := by
  have h1 := cs_sum h L hL
  have hlen := len_pos hne
  have a0 : 0 ≤ p := by
    have h2 : (0 : Rat) ≤ (((L.map (cs T)).sum : Int) : Rat) := Rat.intCast_nonneg.2 h1.1
    rw [← hp] at h2
    have h3 : 0 * (L.length : Rat) ≤ p * (L.length : Rat) := by rw [Rat.zero_mul]; exact h2
    exact Rat.le_of_mul_le_mul_right h3 hlen
  have a1 : p ≤ 1000000 := by
    have h2 : ((((L.map (cs T)).sum : Int)) : Rat) ≤ (((L.length : Int) * 1000000 : Int) : Rat) := Rat.intCast_le_intCast.2 h1.2
    rw [← hp] at h2
    push_cast at h2
    have h3 : p * (L.length : Rat) ≤ 1000000 * (L.length : Rat) := by grind
    exact Rat.le_of_mul_le_mul_right h3 hlen
  exact ⟨a0, a1, Gq.of (by grind) (by grind) (Mq.of (List.length_pos_iff.2 hne) hl hp)⟩
theorem desc_in (T : List (Int × Int)) (b : Int) : ∀ x ∈ desc T b, 0 ≤ x ∧ x < T.length := fun x hx => by
  have := (mem_desc T b x).1 hx; exact ⟨this.1, this.2.1⟩
theorem pk_G {T : List (Int × Int)} (h : Tr T) {b : Int} (h0 : 0 ≤ b) (hb : b < T.length) : 0 ≤ pk T b ∧ pk T b ≤ 1000000 ∧ Gq (pk T b) :=
  mean_G h (List.length_pos_iff.1 (desc_pos h h0 hb)) (by have := desc_len T b; have := h.l30; omega) (desc_in T b) (pk_eq h h0 hb)
theorem zipL_map {α : Type} (f g : α → D) (L : List α) : zipL (L.map f) (L.map g) = L.map fun x => D.tup [f x, g x] := by
  induction L with
  | nil => rfl
  | cons a r ih => simp [zipL, ih]
/-- the greatest peak -/
def PK (T : List (Int × Int)) : Rat := maxQ (pk T 0) ((rngA 1 (T.length - 1)).map (pk T))
theorem idx_cons {n : Nat} (hn : 0 < n) : idx n = 0 :: rngA 1 (n - 1) := by
  obtain ⟨m, rfl⟩ : ∃ m, n = m + 1 := ⟨n - 1, by omega⟩
  rfl
theorem PK_spec {T : List (Int × Int)} (hn : 0 < T.length) : (∃ b : Int, 0 ≤ b ∧ b < T.length ∧ pk T b = PK T) ∧ ∀ b : Int, 0 ≤ b → b < T.length → pk T b ≤ PK T := by
  obtain ⟨h1, h2⟩ := maxQ_spec ((rngA 1 (T.length - 1)).map (pk T)) (pk T 0)
  have e : pk T 0 :: (rngA 1 (T.length - 1)).map (pk T) = (idx T.length).map (pk T) := by rw [idx_cons hn]; rfl
  rw [e] at h1 h2
  constructor
  · obtain ⟨b, hb, he⟩ := List.mem_map.1 h1
    have := (mem_idx _ _).1 hb
    exact ⟨b, this.1, this.2, he⟩
  · intro b b0 bn
    exact h2 _ (List.mem_map.2 ⟨b, (mem_idx _ _).2 ⟨b0, bn⟩, rfl⟩)
theorem isEmpty_map {α β : Type} (f : α → β) (L : List α) : (L.map f).isEmpty = L.isEmpty := by cases L <;> rfl
theorem least_peak (n : Nat) {T : List (Int × Int)} (h : Tr T) : (runs prg (n+4)).1 11 [.d (tD T)] = .ok (.d (if T = [] then .non else qD (PK T)), [none]) := by
  have e1 := need_tree n h
  have e2 := branches (n+2) h
  have e3 := costs_in (n+1) h
  have e0 : eqD (.tup (T.map pD)) (.tup []) = some (T.map pD).isEmpty := eqD_empT fun x hx => by
    obtain ⟨p, _, rfl⟩ := List.mem_map.1 hx
    exact .p _ _
  rw [isEmpty_map] at e0
  rw [run_s (n+3) 11 _ d_least_peak rfl]
  by_cases hT : T = []
  · subst hT
    have e1' : (runs prg (n+3)).1 6 [.d (.tup [])] = .ok (.d .non, [none]) := e1
    have e0' : eqD (.tup []) (.tup []) = some true := rfl
    show evD _ _ [.d (.tup [])] = _
    simp? only [d_least_peak, b_least_peak, e1', e0']
  · have hn : 0 < T.length := List.length_pos_iff.2 hT
    have e0' : T.isEmpty = false := by cases T with | nil => exact absurd rfl hT | cons => rfl
    rw [e0'] at e0
    have e4 := greatest (n+1) (pk T 0) ((rngA 1 (T.length - 1)).map (pk T)) (fun q hq => by
      have e : pk T 0 :: (rngA 1 (T.length - 1)).map (pk T) = (idx T.length).map (pk T) := by rw [idx_cons hn]; rfl
      rw [e] at hq
      obtain ⟨b, hb, rfl⟩ := List.mem_map.1 hq
      have := (mem_idx _ _).1 hb
      exact (pk_G h this.1 this.2).2.2.sm)
    have e5 : (pk T 0 :: (rngA 1 (T.length - 1)).map (pk T)).map qD = (idx T.length).map fun b => qD (pk T b) := by
      rw [idx_cons hn]; simp
    rw [e5] at e4
    have hz := zipL_map (fun i => D.int (cst T i)) (fun i => lI (desc T i)) (idx T.length)
    simp only [tD, descs] at *
    rw [if_neg hT]
    simp? only [d_least_peak, b_least_peak, e1, e0, e2, e3, hz]
    rw [lcL_mapD (fun x => D.tup [.int (cst T x), lI (desc T x)]) fun b => qD (pk T b)]
    · simp? only [e4, PK]
      have e6 := frz_call prg (n+2) 10 d_greatest [.l ((idx T.length).map fun b => qD (pk T b))] [.d (.lst ((idx T.length).map fun b => qD (pk T b)))] rfl rfl rfl
      simp? only [e6, e4]
    · intro z hz2
      have hz3 := (mem_idx _ _).1 hz2
      have hdp := desc_pos h hz3.1 hz3.2
      have e6 := in_lowest (n+2) (cst T z) ((desc T z).length : Int) (by omega) (len_500 T h z)
      rw [lowP_pk] at e6
      simp only [lI]
      simp? only [lcG, e6, List.length_map]
end P72M
end
section
set_option linter.all false
set_option maxRecDepth 100000
set_option maxHeartbeats 4000000
namespace P72M
open P72
open PySem EV EU
open L2 (Key)
set_option autoImplicit false
/-! the law's order -/
def cntQ (F : List Rat) (q : Rat) : Nat := (F.filter fun x => decide (x < q)).length
def insQ (F : List Rat) (q : Rat) : List Rat := if q ∈ F then F else F.take (cntQ F q) ++ [q] ++ F.drop (cntQ F q)
def ordQ (L : List Rat) : List Rat := L.foldl insQ []
theorem cut_asc {q : Rat} : ∀ {F : List Rat}, F.Pairwise (· < ·) → F.take (cntQ F q) = (F.filter fun x => decide (x < q)) ∧ F.drop (cntQ F q) = F.filter fun x => !decide (x < q) := by
  intro F
  induction F with
  | nil => intro _; exact ⟨rfl, rfl⟩
  | cons a r ih =>
    intro h
    have h2 := List.pairwise_cons.1 h
    obtain ⟨i1, i2⟩ := ih h2.2
    unfold cntQ at *
    by_cases ha : a < q
    · simp only [List.filter_cons, decide_eq_true ha, if_true, List.length_cons, List.take_succ_cons, List.drop_succ_cons, i1, i2, Bool.not_true, Bool.false_eq_true, if_false, and_self]
    · have hn : (r.filter fun x => decide (x < q)) = [] := by
        rw [List.filter_eq_nil_iff]
        intro x hx
        have := h2.1 x hx
        simp
        grind
      simp only [List.filter_cons, decide_eq_false ha, Bool.false_eq_true, if_false, hn, List.length_nil, List.take_zero, List.drop_zero, Bool.not_false, if_true, true_and]
      congr 1
      symm
      rw [List.filter_eq_self]
      intro x hx
      have := List.filter_eq_nil_iff.1 hn x hx
      simpa using this
theorem insQ_asc {F : List Rat} (h : F.Pairwise (· < ·)) (q : Rat) : (insQ F q).Pairwise (· < ·) ∧ ∀ x, x ∈ insQ F q ↔ x ∈ F ∨ x = q := by
  unfold insQ
  by_cases hq : q ∈ F
  · rw [if_pos hq]
    refine ⟨h, fun x => ⟨fun hx => .inl hx, fun hx => ?_⟩⟩
    rcases hx with hx | hx
    · exact hx
    · rw [hx]; exact hq
  · rw [if_neg hq]
    obtain ⟨e1, e2⟩ := cut_asc (q := q) h
    rw [e1, e2]
    constructor
    · rw [List.append_assoc, List.pairwise_append]
      refine ⟨h.filter _, ?_, ?_⟩
      · rw [List.cons_append, List.nil_append, List.pairwise_cons]
        refine ⟨fun x hx => ?_, h.filter _⟩
        obtain ⟨h1, h2⟩ := List.mem_filter.1 hx
        have h3 : ¬ x < q := by simpa using h2
        have h4 : x ≠ q := fun e => hq (by rw [← e]; exact h1)
        grind
      · intro a ha b hb
        have h1 : a < q := by simpa using (List.mem_filter.1 ha).2
        rw [List.cons_append, List.nil_append] at hb
        rcases List.mem_cons.1 hb with hb | hb
        · rw [hb]; exact h1
        · have h2 : ¬ b < q := by simpa using (List.mem_filter.1 hb).2
          grind
    · intro x
      rw [List.mem_append, List.mem_append, List.mem_filter, List.mem_filter]
      simp
      constructor
      · rintro ((h1 | h1) | h1)
        · exact .inl h1.1
        · exact .inr h1
        · exact .inl h1.1
      · rintro (h1 | h1)
        · by_cases hx : x < q
          · exact .inl (.inl ⟨h1, hx⟩)
          · exact .inr ⟨h1, by grind⟩
        · exact .inl (.inr h1)
theorem foldQ_asc : ∀ (L F : List Rat), F.Pairwise (· < ·) → (L.foldl insQ F).Pairwise (· < ·) ∧ ∀ x, x ∈ L.foldl insQ F ↔ x ∈ F ∨ x ∈ L := by
  intro L
  induction L with
  | nil => intro F h; exact ⟨h, by simp⟩
  | cons a r ih =>
    intro F h
    obtain ⟨h1, h2⟩ := insQ_asc h a
    obtain ⟨h3, h4⟩ := ih _ h1
    refine ⟨h3, fun x => ?_⟩
    rw [List.foldl_cons, h4 x, h2 x, List.mem_cons]
    constructor
    · rintro ((h | h) | h) <;> simp [h]
    · rintro (h | h | h) <;> simp [h]
theorem ordQ_spec (L : List Rat) : (ordQ L).Pairwise (· < ·) ∧ ∀ x, x ∈ ordQ L ↔ x ∈ L := by
  obtain ⟨h1, h2⟩ := foldQ_asc L [] List.Pairwise.nil
  exact ⟨h1, fun x => by rw [ordQ, h2 x]; simp⟩
theorem insQ_len (F : List Rat) (q : Rat) : (insQ F q).length ≤ F.length + 1 := by
  unfold insQ
  split
  · omega
  · have := List.length_take_le (cntQ F q) F
    simp [List.length_append, List.length_take, List.length_drop]
    omega
/-- the last one -/
theorem last_asc {L : List Rat} {M : Rat} (h : L.Pairwise (· < ·)) (hM : M ∈ L) (hl : ∀ x ∈ L, x ≤ M) : ixD (L.map qD) (-1) = some (qD M) := by
  have hne : L ≠ [] := List.ne_nil_of_mem hM
  have hpos := List.length_pos_iff.2 hne
  have hix : L2.ixN (L.map qD).length (-1) = some (L.length - 1) := by
    rw [List.length_map]
    have h1 : -(L.length : Int) ≤ -1 := by omega
    simp [L2.ixN, h1]
    omega
  unfold ixD
  rw [hix]
  show (L.map qD)[L.length - 1]? = _
  rw [List.getElem?_map]
  have hlast : L[L.length - 1]? = some M := by
    obtain ⟨i, hi, he⟩ := List.mem_iff_getElem.1 hM
    by_cases e : i = L.length - 1
    · rw [← e, List.getElem?_eq_getElem hi, he]
    · exfalso
      have h2 := (List.pairwise_iff_getElem.1 h) i (L.length - 1) hi (by omega) (by omega)
      have h3 := hl _ (List.getElem_mem (by omega : L.length - 1 < L.length))
      rw [he] at h2
      grind
  rw [hlast]
  rfl
def Fnd (e : E) (Ds : List D) : Prop := e = .l Ds ∨ e = .d (.lst Ds)
theorem ord_cmp {q r : Rat} (hq : Sm q) (hr : Sm r) : mulOk q.num (r.den : Int) = true ∧ decide (q.num * (r.den : Int) < r.num * (q.den : Int)) = decide (q < r) := ⟨mulOk_of hq.1 hr.db (by omega) (by omega), by rw [decide_eq_decide, Rat.lt_iff]⟩
theorem cut_toN (xs : List D) {k : Nat} (h : k ≤ xs.length) : cut xs none (some (k : Int)) = xs.take k := by
  rw [cut_to xs k (by omega) (by omega)]; rfl
theorem cut_fromN (xs : List D) {k : Nat} (h : k ≤ xs.length) : cut xs (some (k : Int)) none = xs.drop k := by
  rw [cut_from xs k (by omega) (by omega)]; rfl
theorem ord_turn (n : Nat) (e0 : Option E) (F : List Rat) (q : Rat) (hF : ∀ x ∈ F, Sm x) (hq : Sm q) (hl : F.length ≤ 1000) (e1 : E) (he : Fnd e1 (F.map qD)) (o2 o3 : Option E) : ∃ e1', Fnd e1' ((insQ F q).map qD) ∧ fB (mkCalls prg n (runs prg n)) (.nm 2) (fbS (hdS 1 b__law_order)) (qD q) [e0, some e1, o2, o3, none] = .nx [e0, some e1', some (.d (qD q)), some (.d (.int (cntQ F q))), none] := by
  have hcle : cntQ F q ≤ F.length := List.length_filter_le _ _
  have hin := inD_q q F
  have f1 : few (cntQ F q + 1) = true := few_leU (by omega)
  have hlt : min (cntQ F q) F.length = cntQ F q := by omega
  have c1 := cut_toN (F.map qD) (k := cntQ F q) (by rw [List.length_map]; exact hcle)
  have c2 := cut_fromN (F.map qD) (k := cntQ F q) (by rw [List.length_map]; exact hcle)
  have f2 : few (cntQ F q + 1 + (F.length - cntQ F q)) = true := few_leU (by omega)
  have hlc : ∀ (o1 : Option E), lcL (lcG (mkCalls prg n (runs prg n)) [4] (.nm 4) (.pr .lt (.x (.pr .mul (.x (.pr .ix (.slt 4 (.x (.cst (.int (0))) .nil))) (.x (.pr .ix (.slt 2 (.x (.cst (.int (1))) .nil))) .nil))) (.x (.pr .mul (.x (.pr .ix (.slt 2 (.x (.cst (.int (0))) .nil))) (.x (.pr .ix (.slt 4 (.x (.cst (.int (1))) .nil))) .nil))) .nil))) (.var 4)) (F.map qD) [e0, o1, some (.d (qD q)), o3, none] = .ok ((F.filter fun x => decide (x < q)).map qD, [e0, o1, some (.d (qD q)), o3, none]) := by
    intro o1
    have key : ∀ (G : List Rat), (∀ x ∈ G, Sm x) → lcL (lcG (mkCalls prg n (runs prg n)) [4] (.nm 4) (.pr .lt (.x (.pr .mul (.x (.pr .ix (.slt 4 (.x (.cst (.int (0))) .nil))) (.x (.pr .ix (.slt 2 (.x (.cst (.int (1))) .nil))) .nil))) (.x (.pr .mul (.x (.pr .ix (.slt 2 (.x (.cst (.int (0))) .nil))) (.x (.pr .ix (.slt 4 (.x (.cst (.int (1))) .nil))) .nil))) .nil))) (.var 4)) (G.map qD) [e0, o1, some (.d (qD q)), o3, none] = .ok ((G.filter fun x => decide (x < q)).map qD, [e0, o1, some (.d (qD q)), o3, none]) := by
      intro G
      induction G with
      | nil => intro _; rfl
      | cons a r ih =>
        intro hG
        obtain ⟨m1, m2⟩ := ord_cmp (hG a (by simp)) hq
        obtain ⟨m3, _⟩ := ord_cmp hq (hG a (by simp))
        have ea : lcG (mkCalls prg n (runs prg n)) [4] (.nm 4) (.pr .lt (.x (.pr .mul (.x (.pr .ix (.slt 4 (.x (.cst (.int (0))) .nil))) (.x (.pr .ix (.slt 2 (.x (.cst (.int (1))) .nil))) .nil))) (.x (.pr .mul (.x (.pr .ix (.slt 2 (.x (.cst (.int (0))) .nil))) (.x (.pr .ix (.slt 4 (.x (.cst (.int (1))) .nil))) .nil))) .nil))) (.var 4) (qD a) [e0, o1, some (.d (qD q)), o3, none] = .ok (if decide (a < q) then some (qD a) else none, [e0, o1, some (.d (qD q)), o3, none]) := by
          simp only [qD]
          cases hd : decide (a < q) <;> simp? only [lcG, ix0, ix1, m1, m2, m3, hd]
        simp only [List.map_cons, lcL, ea, ih (fun x hx => hG x (List.mem_cons_of_mem _ hx)), List.filter_cons]
        cases decide (a < q) <;> rfl
    exact key F hF
  have hcn : ((F.filter fun x => decide (x < q)).length : Int) = (cntQ F q : Int) := rfl
  by_cases hm : q ∈ F
  · rw [decide_eq_true hm] at hin
    have hi : insQ F q = F := by unfold insQ; rw [if_pos hm]
    refine ⟨.d (.lst (F.map qD)), .inr (by rw [hi]), ?_⟩
    have h1 := hlc none
    rcases he with rfl | rfl
    · simp? only [fB, fbS, hdS, b__law_order, h1, hcn, hin]
    · simp? only [fB, fbS, hdS, b__law_order, h1, hcn, hin]
  · rw [decide_eq_false hm] at hin
    have hi : (insQ F q).map qD = (F.map qD).take (cntQ F q) ++ qD q :: (F.map qD).drop (cntQ F q) := by
      unfold insQ
      rw [if_neg hm]
      simp [List.map_take, List.map_drop]
    refine ⟨.l ((insQ F q).map qD), .inl rfl, ?_⟩
    rw [hi]
    have h1 := hlc none
    rcases he with rfl | rfl
    · simp? only [fB, fbS, hdS, b__law_order, h1, hcn, hin, c1, c2, List.length_take, List.length_drop, hlt, f1, f2, List.length_append, List.append_assoc]
    · simp? only [fB, fbS, hdS, b__law_order, h1, hcn, hin, c1, c2, List.length_take, List.length_drop, hlt, f1, f2, List.length_append, List.append_assoc]
theorem ord_loop (n : Nat) (e0 : Option E) : ∀ (L F : List Rat), (∀ x ∈ F, Sm x) → (∀ x ∈ L, Sm x) → F.length + L.length ≤ 1000 → ∀ (e1 : E), Fnd e1 (F.map qD) → ∀ (o2 o3 : Option E), ∃ e1' q2 q3, Fnd e1' ((L.foldl insQ F).map qD) ∧ forL (fB (mkCalls prg n (runs prg n)) (.nm 2) (fbS (hdS 1 b__law_order))) (L.map qD) [e0, some e1, o2, o3, none] = .nx [e0, some e1', q2, q3, none] := by
  intro L
  induction L with
  | nil => intro F hF hL hl e1 he o2 o3; exact ⟨e1, o2, o3, he, rfl⟩
  | cons a r ih =>
    intro F hF hL hl e1 he o2 o3
    simp only [List.length_cons] at hl
    have ha := hL a (by simp)
    obtain ⟨e1', he1, e⟩ := ord_turn n e0 F a hF ha (by omega) e1 he o2 o3
    have hil := insQ_len F a
    obtain ⟨e2', r2, r3, he2, e2⟩ := ih (insQ F a) (fun x hx => by
      unfold insQ at hx
      split at hx
      · exact hF x hx
      · rcases List.mem_append.1 hx with hx | hx
        · rcases List.mem_append.1 hx with hx | hx
          · exact hF x (List.mem_of_mem_take hx)
          · simp at hx; rw [hx]; exact ha
        · exact hF x (List.mem_of_mem_drop hx)) (fun x hx => hL x (List.mem_cons_of_mem _ hx)) (by omega) e1' he1 (some (.d (qD a))) (some (.d (.int (cntQ F a))))
    refine ⟨e2', r2, r3, he2, ?_⟩
    rw [List.map_cons, forL_nx e, e2]
theorem law_order (n : Nat) (L : List Rat) (hL : ∀ x ∈ L, Sm x) (hl : L.length ≤ 1000) : ∃ e, Fnd e ((ordQ L).map qD) ∧ (runs prg (n+1)).1 20 [.d (.lst (L.map qD))] = .ok (e, [none]) := by
  obtain ⟨e1', q2, q3, he, e⟩ := ord_loop n (some (.d (.lst (L.map qD)))) L [] (by simp) hL (by simpa using hl) (.l []) (.inl rfl) none none
  refine ⟨e1', he, ?_⟩
  rw [run_s n 20 _ d__law_order rfl]
  simp only [fbS, hdS, b__law_order] at e
  simp? only [d__law_order, b__law_order, e]
end P72M
end
section
set_option linter.all false
set_option maxRecDepth 100000
set_option maxHeartbeats 4000000
namespace P72M
open P72
open PySem EV EU
open L2 (Key)
set_option autoImplicit false
theorem qD_int (i : Int) : qD (i : Rat) = .tup [.int i, .int 1] := rfl
theorem lowP_self (q : Rat) : lowP q.num (q.den : Int) = q := by
  unfold lowP
  rw [← Rat.divInt_eq_div, Rat.num_divInt_den]
theorem pln_q (q : Rat) (k : Nat) : Pln (k + 1) (qD q) := Pln.tup2 (.int _ _) (.int _ _)
theorem law_is_pair (n : Nat) {q : Rat} (h0 : 0 ≤ q) (hG : Gq q) (t b : Int) (ht : 1000000000 * 2329089562800 ≤ t) (hb : 1000000000 * 2329089562800 ≤ b) : (runs prg (n+2)).1 21 [.d (qD q), .d (.int t), .d (.int b)] = .ok (.d (.bl true), [none, none, none]) := by
  have hn := hG.num
  have hd := hG.den
  have hn0 : 0 ≤ q.num := Rat.num_nonneg.2 h0
  have hdp := den_pos q
  have hs := hG.sm
  have e1 := law_sort n 1 (qD q) (pln_q q 0)
  have e2 := law_sort n 0 (.int q.num) (.int _ _)
  have e3 := law_sort n 0 (.int (q.den : Int)) (.int _ _)
  have e4 := law_low n q.num (q.den : Int) hdp (Nat.lt_of_lt_of_le hs.db (Nat.pow_le_pow_right (by omega) (by omega)))
  rw [lowP_self] at e4
  have e5 := eqD_q q q
  have c1 : q.num ≤ t := by omega
  have c2 : (1 : Int) ≤ (q.den : Int) := by omega
  have c3 : (q.den : Int) ≤ b := by omega
  rw [run_s (n+1) 21 _ d__law_is_pair rfl]
  simp only [qD, sortN] at *
  simp? only [d__law_is_pair, b__law_is_pair, e1, e2, e3, e4, e5, ix0, ix1, hn0, c1, c2, c3]
theorem sum_loop (n : Nat) (e0 : Option E) : ∀ (L : List Rat) (a : Rat) (o2 : Option E), 0 ≤ a → Mq a → (∀ q ∈ L, 0 ≤ q ∧ Mq q) → a + L.sum ≤ 1000000000 → ∃ o', forL (fB (mkCalls prg (n+2) (runs prg (n+2))) (.nm 2) (fbS (hdS 1 b__law_sum))) (L.map qD) [e0, some (.d (qD a)), o2] = .nx [e0, some (.d (qD (a + L.sum))), o'] := by
  intro L
  induction L with
  | nil => intro a o2 _ _ _ _; exact ⟨o2, by rw [List.sum_nil, Rat.add_zero]; rfl⟩
  | cons q r ih =>
    intro a o2 ha hM hL hs
    have hq := hL q (by simp)
    have hr : 0 ≤ r.sum := by
      have := sumQ_nonneg (f := fun x : Rat => x) (L := r) fun x hx => (hL x (List.mem_cons_of_mem _ hx)).1
      rwa [List.map_id'] at this
    rw [List.sum_cons] at hs
    have hGa : Gq a := Gq.of (by grind) (by grind) hM
    have hGq : Gq q := Gq.of (by grind) (by grind) hq.2
    have e1 := law_add n hGa.sm hGq.sm
    obtain ⟨o', e2⟩ := ih (a + q) (some (.d (qD q))) (by grind) (hM.add hq.2) (fun x hx => hL x (List.mem_cons_of_mem _ hx)) (by grind)
    refine ⟨o', ?_⟩
    have e3 : a + (q :: r).sum = a + q + r.sum := by rw [List.sum_cons]; grind
    rw [e3, List.map_cons, ← e2]
    refine forL_nx ?_
    simp only [qD] at e1 ⊢
    simp? only [fB, fbS, hdS, b__law_sum, e1]
theorem law_sum (n : Nat) (L : List Rat) (hL : ∀ q ∈ L, 0 ≤ q ∧ Mq q) (hs : L.sum ≤ 1000000000) : (runs prg (n+3)).1 27 [.d (.lst (L.map qD))] = .ok (.d (qD L.sum), [none]) ∧ (runs prg (n+3)).1 27 [.d (.tup (L.map qD))] = .ok (.d (qD L.sum), [none]) := by
  obtain ⟨o1, e1⟩ := sum_loop n (some (.d (.lst (L.map qD)))) L 0 none Rat.le_refl Mq.zero hL (by rw [Rat.zero_add]; exact hs)
  obtain ⟨o2, e2⟩ := sum_loop n (some (.d (.tup (L.map qD)))) L 0 none Rat.le_refl Mq.zero hL (by rw [Rat.zero_add]; exact hs)
  rw [Rat.zero_add] at e1 e2
  have z : qD 0 = .tup [.int 0, .int 1] := rfl
  simp only [fbS, hdS, b__law_sum, z] at e1 e2
  constructor
  · rw [run_s (n+2) 27 _ d__law_sum rfl]
    simp? only [d__law_sum, b__law_sum, e1]
  · rw [run_s (n+2) 27 _ d__law_sum rfl]
    simp? only [d__law_sum, b__law_sum, e2]
theorem idx_cs (T : List (Int × Int)) : (idx T.length).map (cs T) = T.map (·.2) := by
  apply List.ext_getElem?
  intro i
  by_cases hi : i < T.length
  · unfold idx
    rw [List.getElem?_map, rngA_get _ _ _ hi, List.getElem?_map, List.getElem?_eq_getElem hi]
    simp [cs, hi]
  · rw [List.getElem?_eq_none (by rw [List.length_map]; unfold idx; rw [rngA_len]; omega), List.getElem?_eq_none (by rw [List.length_map]; omega)]
def tot (T : List (Int × Int)) : Int := ((idx T.length).map (cs T)).sum
theorem tot_le {T : List (Int × Int)} (h : Tr T) : 0 ≤ tot T ∧ tot T ≤ 30000000 := by
  have h1 := cs_sum h (idx T.length) fun x hx => (mem_idx _ _).1 hx
  have h2 : (idx T.length).length = T.length := rngA_len _ _
  have := h.l30
  unfold tot
  omega
/-- fair amounts -/
structure Fair (T : List (Int × Int)) (a : Int → Rat) : Prop where
  nn : ∀ x : Int, 0 ≤ x → x < T.length → 0 ≤ a x ∧ Mq (a x)
  sm : ((idx T.length).map a).sum = (tot T : Rat)
  cov : ∀ b : Int, 0 ≤ b → b < T.length → (cst T b : Rat) ≤ ((desc T b).map a).sum
theorem sub_sum {a : Int → Rat} {n : Nat} {D : List Int} (hD : D.Pairwise (· < ·)) (hin : ∀ x ∈ D, x ∈ idx n) (hnn : ∀ x ∈ idx n, 0 ≤ a x) : (D.map a).sum ≤ ((idx n).map a).sum := by
  have e : (idx n).filter (fun x => decide (x ∈ D)) = D := filt_mem (rngA_asc _ _) hD hin
  rw [sumQ_part (fun x => decide (x ∈ D)) a (idx n), e]
  have := sumQ_nonneg (f := a) (L := (idx n).filter fun x => !decide (x ∈ D)) fun x hx => hnn x (List.mem_filter.1 hx).1
  grind
theorem Fair.one {T : List (Int × Int)} (h : Tr T) {a : Int → Rat} (f : Fair T a) {x : Int} (h0 : 0 ≤ x) (hx : x < T.length) : a x ≤ 30000000 := by
  have h1 := sub_sum (a := a) (n := T.length) (D := [x]) (by simp) (fun y hy => by simp at hy; subst hy; exact (mem_idx _ _).2 ⟨h0, hx⟩) (fun y hy => by have := (mem_idx _ _).1 hy; exact (f.nn y this.1 this.2).1)
  rw [f.sm] at h1
  have h2 : (tot T : Rat) ≤ ((30000000 : Int) : Rat) := Rat.intCast_le_intCast.2 (tot_le h).2
  have h3 : (([x].map a).sum) = a x := by simp; exact Rat.add_zero _
  rw [h3] at h1
  have h4 : ((30000000 : Int) : Rat) = 30000000 := rfl
  rw [h4] at h2
  exact Rat.le_trans h1 h2
theorem Fair.G {T : List (Int × Int)} (h : Tr T) {a : Int → Rat} (f : Fair T a) {x : Int} (h0 : 0 ≤ x) (hx : x < T.length) : Gq (a x) := by
  have h1 := f.one h h0 hx
  have h2 := f.nn x h0 hx
  exact Gq.of (by grind) (by grind) h2.2
theorem Fair.dsum {T : List (Int × Int)} (h : Tr T) {a : Int → Rat} (f : Fair T a) (b : Int) : 0 ≤ ((desc T b).map a).sum ∧ ((desc T b).map a).sum ≤ 30000000 ∧ Mq ((desc T b).map a).sum := by
  have h1 := sub_sum (a := a) (n := T.length) (desc_asc T b) (fun y hy => by have := (mem_desc T b y).1 hy; exact (mem_idx _ _).2 ⟨this.1, this.2.1⟩) (fun y hy => by have := (mem_idx _ _).1 hy; exact (f.nn y this.1 this.2).1)
  rw [f.sm] at h1
  have h2 : (tot T : Rat) ≤ ((30000000 : Int) : Rat) := Rat.intCast_le_intCast.2 (tot_le h).2
  have h4 : ((30000000 : Int) : Rat) = 30000000 := rfl
  rw [h4] at h2
  exact ⟨sumQ_nonneg fun y hy => by have := (mem_desc T b y).1 hy; exact (f.nn y this.1 this.2.1).1, Rat.le_trans h1 h2, Mq.sum fun y hy => by have := (mem_desc T b y).1 hy; exact (f.nn y this.1 this.2.1).2⟩
theorem cst_le {T : List (Int × Int)} (h : Tr T) (b : Int) : 0 ≤ cst T b ∧ cst T b ≤ 30000000 := by
  have h1 := cs_sum h (desc T b) (desc_in T b)
  have h2 := desc_len T b
  have := h.l30
  unfold cst
  omega
theorem int_G {i : Int} (h0 : 0 ≤ i) (h1 : i ≤ 30000000) : Gq (i : Rat) := by
  have a0 : (0 : Rat) ≤ (i : Rat) := Rat.intCast_nonneg.2 h0
  have a1 : (i : Rat) ≤ ((30000000 : Int) : Rat) := Rat.intCast_le_intCast.2 h1
  have a2 : ((30000000 : Int) : Rat) = 30000000 := rfl
  rw [a2] at a1
  exact Gq.of (by grind) (by grind) (Mq.int i)
/-- the branches that pay no more than they must -/
def tights (T : List (Int × Int)) (a : Int → Rat) (L : List Int) : List D := (L.filter fun b => decide (((desc T b).map a).sum = (cst T b : Rat))).map fun b => lI (desc T b)
abbrev fairB : Ss := fbS (hdS 2 b__law_are_fair)
theorem fair_turn (n : Nat) {T : List (Int × Int)} (h : Tr T) {a : Int → Rat} (f : Fair T a) (b : Int) (b0 : 0 ≤ b) (bn : b < T.length) (Ts : List D) (hl : Ts.length ≤ 100) (o6 o7 o4 o8 : Option E) : ∃ q4 q7 q8, fB (mkCalls prg (n+3) (runs prg (n+3))) (.nm 6) fairB (.int (b + 1)) [some (.d (tD T)), some (.d (.tup (qs T.length a))), none, none, o4, some (.l Ts), o6, o7, o8, none] = .nx [some (.d (tD T)), some (.d (.tup (qs T.length a))), none, none, q4, some (.l (Ts ++ tights T a [b])), some (.d (.int (b + 1))), q7, q8, none] := by
  have e1 := law_branch (n+1) h b
  have e2 := law_cost n h b
  obtain ⟨d0, d1, d2⟩ := f.dsum h b
  have e3 := (law_sum n ((desc T b).map a) (fun q hq => by
    obtain ⟨x, hx, rfl⟩ := List.mem_map.1 hq
    have := (mem_desc T b x).1 hx
    exact f.nn x this.1 this.2.1) (by grind)).1
  have hc := cst_le h b
  have hGp : Gq ((desc T b).map a).sum := Gq.of (by grind) (by grind) d2
  have e4 := law_less (n+2) hGp.sm (int_G hc.1 hc.2).sm
  have hnl : decide (((desc T b).map a).sum < (cst T b : Rat)) = false := decide_eq_false (by have := f.cov b b0 bn; grind)
  rw [hnl] at e4
  have e5 := eqD_q ((desc T b).map a).sum (cst T b : Rat)
  have hlc : ∀ z ∈ desc T b, ixD (qs T.length a) z = some (qD (a z)) := fun z hz => by
    have := (mem_desc T b z).1 hz
    exact ixM (fun x => qD (a x)) T.length this.1 this.2.1
  have f1 : few (Ts.length + 1) = true := few_leU (by omega)
  have f0 : few Ts.length = true := few_leU (by omega)
  have e6 : ((desc T b).map a).map qD = (desc T b).map fun z => qD (a z) := by rw [List.map_map]; rfl
  rw [e6] at e3
  rw [qD_int] at e4 e5
  obtain ⟨S, hS⟩ : ∃ S, S = ((desc T b).map a).sum := ⟨_, rfl⟩
  rw [← hS] at e3 e4 e5
  have e3l := (frz_call prg (n+2) 27 d__law_sum [.l ((desc T b).map fun z => qD (a z))] [.d (.lst ((desc T b).map fun z => qD (a z)))] rfl rfl rfl).trans e3
  by_cases ht : S = (cst T b : Rat)
  · have htt : tights T a [b] = [lI (desc T b)] := by unfold tights; rw [List.filter_cons, List.filter_nil, ← hS, decide_eq_true ht]; rfl
    rw [decide_eq_true ht] at e5
    refine ⟨some (.d (.tup [.int (cst T b), .int 1])), some (.d (lI (desc T b))), some (.d (qD S)), ?_⟩
    rw [htt]
    simp only [tD, lI, qD] at *
    simp? only [fB, fairB, fbS, hdS, b__law_are_fair, e1, e2]
    rw [lcL_mapD D.int fun z => D.tup [.int (a z).num, .int ((a z).den : Int)]]
    · simp? only [e3l, e4, e5, f1]
    · intro z hz
      have := hlc z hz
      simp? only [lcG, this]
  · have htt : tights T a [b] = [] := by unfold tights; rw [List.filter_cons, List.filter_nil, ← hS, decide_eq_false ht]; rfl
    rw [decide_eq_false ht] at e5
    refine ⟨some (.d (.tup [.int (cst T b), .int 1])), some (.l ((desc T b).map .int)), some (.d (qD S)), ?_⟩
    rw [htt]
    simp only [tD, lI, qD] at *
    simp? only [fB, fairB, fbS, hdS, b__law_are_fair, e1, e2]
    rw [lcL_mapD D.int fun z => D.tup [.int (a z).num, .int ((a z).den : Int)]]
    · simp? only [e3l, e4, e5, f0, Nat.add_zero]
    · intro z hz
      have := hlc z hz
      simp? only [lcG, this]
theorem fair_loop (n : Nat) {T : List (Int × Int)} (h : Tr T) {a : Int → Rat} (f : Fair T a) : ∀ (k : Nat) (m : Nat), m + k = T.length → ∀ (Ts : List D), Ts.length ≤ m → ∀ (o4 o6 o7 o8 : Option E), ∃ q4 q6 q7 q8, forL (fB (mkCalls prg (n+3) (runs prg (n+3))) (.nm 6) fairB) ((rngA ((m : Int) + 1) k).map .int) [some (.d (tD T)), some (.d (.tup (qs T.length a))), none, none, o4, some (.l Ts), o6, o7, o8, none] = .nx [some (.d (tD T)), some (.d (.tup (qs T.length a))), none, none, q4, some (.l (Ts ++ tights T a (rngA m k))), q6, q7, q8, none] := by
  intro k
  induction k with
  | zero => intro m hm Ts hl o4 o6 o7 o8; exact ⟨o4, o6, o7, o8, by simp [rngA, tights, forL]⟩
  | succ k ih =>
    intro m hm Ts hl o4 o6 o7 o8
    have h30 := h.l30
    obtain ⟨q4, q7, q8, e⟩ := fair_turn n h f m (by omega) (by omega) Ts (by omega) o6 o7 o4 o8
    have hlt : (tights T a [(m : Int)]).length ≤ 1 := by unfold tights; rw [List.length_map]; exact List.length_filter_le _ _
    obtain ⟨r4, r6, r7, r8, e2⟩ := ih (m + 1) (by omega) (Ts ++ tights T a [(m : Int)]) (by rw [List.length_append]; omega) q4 (some (.d (.int ((m : Int) + 1)))) q7 q8
    refine ⟨r4, r6, r7, r8, ?_⟩
    rw [rngA, List.map_cons, forL_nx e]
    have e3 : tights T a (rngA m (k + 1)) = tights T a [(m : Int)] ++ tights T a (rngA ((m + 1 : Nat) : Int) k) := by
      unfold tights
      rw [rngA, ← List.map_append, ← List.filter_append]
      rfl
    rw [e3, ← List.append_assoc]
    exact e2
theorem law_are_fair (n : Nat) {T : List (Int × Int)} (h : Tr T) {a : Int → Rat} (f : Fair T a) : (runs prg (n+4)).1 29 [.d (tD T), .d (.tup (qs T.length a))] = .ok (.d (.tup [.bl true, .lst (tights T a (idx T.length))]), [none, none]) := by
  have h30 := h.l30
  obtain ⟨q4, q6, q7, q8, e⟩ := fair_loop n h f T.length 0 (by omega) [] (by simp) none none none none
  have ht := tot_le h
  have e3 := (law_sum n ((idx T.length).map a) (fun q hq => by
    obtain ⟨x, hx, rfl⟩ := List.mem_map.1 hq
    have := (mem_idx _ _).1 hx
    exact f.nn x this.1 this.2) (by
      rw [f.sm]
      have := Rat.intCast_le_intCast.2 ht.2
      have h4 : ((30000000 : Int) : Rat) = 30000000 := rfl
      rw [h4] at this
      grind)).2
  rw [f.sm, List.map_map] at e3
  have e3' : (runs prg (n+3)).1 27 [.d (.tup (qs T.length a))] = .ok (.d (.tup [.int (tot T), .int 1]), [none]) := e3
  have p40 : pPow [.int 10, .int 40] = some (.d (.int (10 ^ 40))) := by
    have : bits 10 63 = true := by decide +kernel
    simp -implicitDefEqProofs only [pPow, this, Int.reduceToNat]
    rfl
  have e6 : ∀ x ∈ qs T.length a, (runs prg (n+3)).1 21 [.d x, .d (.int (10 ^ 40)), .d (.int (10 ^ 40))] = .ok (.d (.bl true), [none, none, none]) := fun x hx => by
    obtain ⟨z, hz, rfl⟩ := List.mem_map.1 hx
    have := (mem_idx _ _).1 hz
    exact law_is_pair (n+1) (f.nn z this.1 this.2).1 (f.G h this.1 this.2) _ _ (by decide) (by decide)
  have r2 := rng2_map (a := 1) (b := (T.length : Int) + 1) (small_of (by omega) (by omega)) (small_of (by omega) (by omega)) (by omega)
  rw [show ((T.length : Int) + 1 - 1).toNat = T.length by omega] at r2
  have e7 := eqD_q (tot T : Rat) (tot T : Rat)
  rw [qD_int] at e7
  simp only [fairB, fbS, hdS, b__law_are_fair, List.nil_append, tD] at e
  rw [run_s (n+3) 29 _ d__law_are_fair rfl]
  simp only [tD]
  simp_all? only [pAdd, pSub, pMul, pFdiv, pMod, pNeg, pEq, pNe, pLt, pLe, pGt, pGe, pIsin, pNotin, pIsnone, pNotnone, pIsb, pIsnotb, pIx, pSlc, pRev, pLen, pAbs, pInt, pList, pTuple, pSum, pMax2, pMin2, pMaxL, pMinL, pMinT, pAny, pAll, pSorted, pGcd, pDictK, pIsinst, pLrange, pTrange, pTup, pLst, pNewK, pNewT, inst, setE, scalD, scEq, d__law_are_fair, b__law_are_fair]
  rw [lcL_pure (g := fun _ => none)]
  · have hfm : (qs T.length a).filterMap (fun _ => (none : Option D)) = [] := fm_none _
    simp? only [hfm, e3']
    rw [lcL_mapD pD fun p => .int p.2]
    · have e8 : (T.map fun p => D.int p.2) = ((idx T.length).map (cs T)).map .int := by rw [idx_cs, List.map_map]; rfl
      rw [e8]
      have e9 : ((idx T.length).map (cs T)).sum = tot T := rfl
      simp? only [asI_int, e9, e7, r2, List.length_map]
      rw [show ((0 : Nat) : Int) + 1 = 1 by omega] at e
      rw [e]
      simp? only []
      rfl
    · intro p _
      simp only [pD]
      simp? only [lcG]
  · intro x hx
    have := e6 x hx
    simp_all? only [pAdd, pSub, pMul, pFdiv, pMod, pNeg, pEq, pNe, pLt, pLe, pGt, pGe, pIsin, pNotin, pIsnone, pNotnone, pIsb, pIsnotb, pIx, pSlc, pRev, pLen, pAbs, pInt, pList, pTuple, pSum, pMax2, pMin2, pMaxL, pMinL, pMinT, pAny, pAll, pSorted, pGcd, pDictK, pIsinst, pLrange, pTrange, pTup, pLst, pNewK, pNewT, inst, setE, scalD, scEq, lcG, p40, this]
end P72M
end
section
set_option linter.all false
set_option maxRecDepth 100000
set_option maxHeartbeats 4000000
namespace P72M
open P72
open PySem EV EU
open L2 (Key)
set_option autoImplicit false
def fD : Option Rat → D
  | none => .non
  | some q => qD q
def fs (n : Nat) (F : Fn) : List D := (idx n).map fun x => fD (F x)
theorem fD_py (o : Option Rat) : ∃ p, (fD o).py = some p ∧ p.canLay0 = true ∧ p.depth ≤ 3 ∧ PyData.eqv p .none = o.isNone := by
  cases o with
  | none => exact ⟨.none, rfl, rfl, by simp [PyData.depth], rfl⟩
  | some q => exact ⟨_, py_q q, by simp [PyData.canLay0, PyData.canLayAll0], by simp [PyData.depth, PyData.depthAll], rfl⟩
theorem inD_none (n : Nat) (F : Fn) : inD .non (fs n F) = some ((idx n).any fun x => (F x).isNone) := by
  unfold fs
  generalize idx n = L
  have key : ∃ ps, pyL (L.map fun x => fD (F x)) = some ps ∧ PyData.canLayAll0 ps = true ∧ (ps.any fun y => PyData.eqv y .none) = L.any fun x => (F x).isNone := by
    induction L with
    | nil => exact ⟨[], rfl, rfl, rfl⟩
    | cons a r ih =>
      obtain ⟨ps, h1, h2, h3⟩ := ih
      obtain ⟨p, g1, g2, g3, g4⟩ := fD_py (F a)
      exact ⟨p :: ps, by simp [pyL, g1, h1], by simp [PyData.canLayAll0, g2, h2], by rw [List.any_cons, List.any_cons, g4, h3]⟩
  obtain ⟨ps, h1, h2, h3⟩ := key
  unfold inD
  by_cases hf : (L.map fun x => fD (F x)).all flatD = true
  · rw [hf]
    simp only [flatD, Bool.and_self, if_true]
    congr 1
    rw [List.any_map]
    apply List.any_congr rfl
    intro x
    simp only [Function.comp]
    cases F x <;> rfl
  · have hf2 : (L.map fun x => fD (F x)).all flatD = false := by simpa using hf
    rw [hf2]
    have hd : min (PyData.depthAll ps) (PyData.none).depth ≤ 60 := by simp [PyData.depth]
    simp only [flatD, Bool.and_false, Bool.false_eq_true, if_false, D.py, h1, PyData.canLay0, h2, Bool.and_self, Bool.true_and, decide_eq_true hd, if_true, h3]
theorem ixF (n : Nat) (F : Fn) {x : Int} (h0 : 0 ≤ x) (hx : x < n) : ixD (fs n F) x = some (fD (F x)) := ixM (fun x => fD (F x)) n h0 hx
theorem fs_len (n : Nat) (F : Fn) : (fs n F).length = n := by unfold fs; rw [List.length_map]; exact rngA_len _ _
theorem fs_set (n : Nat) (F : Fn) (p : Rat) {a : Int} (h0 : 0 ≤ a) (ha : a < n) : (fs n F).set a.toNat (qD p) = fs n (setF F [a] p) := by
  unfold fs
  rw [idxmap_set (fun x => fD (F x)) n h0 ha]
  apply List.map_congr_left
  intro x _
  unfold setF
  by_cases e : x = a
  · subst e; simp [fD]
  · simp [e]
def MqF (F : Fn) : Prop := ∀ x q, F x = some q → 0 ≤ q ∧ q ≤ 1000000 ∧ Mq q
abbrev lvW : Ss := fbS (hdS 2 b_levelled)
abbrev lvZ : Ss := fbS (hdS 1 lvW)
abbrev lvA : Ss := fbS (hdS 2 lvZ)
/-- what a branch lacks -/
theorem lack_loop (n : Nat) {T : List (Int × Int)} (F : Fn) (hF : MqF F) (e0 e1 e2 e4 e6 e7 e10 e11 e12 : Option E) : ∀ (B : List Int) (r : Rat) (o8 : Option E), (∀ x ∈ B, 0 ≤ x ∧ x < T.length) → r ≤ 30000000 → -30000000 ≤ r - (B.length : Rat) * 1000000 → Mq r → ∃ q8, forL (fB (mkCalls prg (n+2) (runs prg (n+2))) (.nm 8) lvA) (B.map .int) [e0, e1, e2, some (.l (fs T.length F)), e4, none, e6, e7, o8, some (.d (qD r)), e10, e11, e12] = .nx [e0, e1, e2, some (.l (fs T.length F)), e4, none, e6, e7, q8, some (.d (qD (r - W F B))), e10, e11, e12] := by
  intro B
  induction B with
  | nil => intro r o8 _ _ _ _; exact ⟨o8, by rw [show r - W F [] = r by show r - 0 = r; grind]; rfl⟩
  | cons a s ih =>
    intro r o8 hB hr hr2 hM
    have ha := hB a (by simp)
    have e1' := ixF T.length F ha.1 ha.2
    rw [List.length_cons] at hr2
    push_cast at hr2
    have hlen : (0 : Rat) ≤ (s.length : Rat) := Rat.natCast_nonneg
    have hW : W F (a :: s) = vF F a + W F s := by unfold W; rw [List.map_cons, List.sum_cons]
    cases hv : F a with
    | none =>
      have hv0 : vF F a = 0 := by unfold vF; rw [hv]; rfl
      obtain ⟨q8, e⟩ := ih r (some (.d (.int a))) (fun x hx => hB x (List.mem_cons_of_mem _ hx)) hr (by grind) hM
      refine ⟨q8, ?_⟩
      rw [hW, hv0, show r - (0 + W F s) = r - W F s by grind, List.map_cons, ← e]
      refine forL_nx ?_
      rw [hv] at e1'
      simp only [fD] at e1'
      simp? only [fB, lvA, lvZ, lvW, fbS, hdS, b_levelled, e1']
    | some q =>
      have hq := hF a q hv
      have hv0 : vF F a = q := by unfold vF; rw [hv]; rfl
      have hGr : Gq r := Gq.of (by grind) (by grind) hM
      have hGq : Gq (-q) := Gq.of (by grind) (by grind) hq.2.2.neg
      obtain ⟨q8, e⟩ := ih (r + -q) (some (.d (.int a))) (fun x hx => hB x (List.mem_cons_of_mem _ hx)) (by grind) (by grind) (hM.add hq.2.2.neg)
      have e3 := sum_of n hGr.sm hGq.sm
      refine ⟨q8, ?_⟩
      rw [hW, hv0, show r - (q + W F s) = r + -q - W F s by grind, List.map_cons, ← e]
      refine forL_nx ?_
      rw [hv] at e1'
      simp only [fD, qD, Rat.neg_num, Rat.neg_den] at e1' e3 ⊢
      simp? only [fB, lvA, lvZ, lvW, fbS, hdS, b_levelled, e1', ix0, ix1, e3]
/-- the mean of the open ones -/
def mn (T : List (Int × Int)) (F : Fn) (b : Int) : Rat := lowP (((opn T F b).map (cs T)).sum) ((opn T F b).length : Int)
def way (T : List (Int × Int)) (F : Fn) (b : Int) : D := .tup [qD (mn T F b), lI (opn T F b)]
def ways (T : List (Int × Int)) (F : Fn) (L : List Int) : List D := (L.filter fun b => !(opn T F b).isEmpty).map (way T F)
theorem mn_eq {T : List (Int × Int)} {F : Fn} {b : Int} (hne : opn T F b ≠ []) : mn T F b * ((opn T F b).length : Rat) = (((opn T F b).map (cs T)).sum : Int) := by
  have hp := len_pos hne
  have e : mn T F b = ((((opn T F b).map (cs T)).sum : Int) : Rat) / ((opn T F b).length : Rat) := by unfold mn lowP; push_cast; rfl
  rw [e]
  exact Rat.div_mul_cancel (Rat.ne_of_gt hp)
theorem opn_len (T : List (Int × Int)) (F : Fn) (b : Int) : (opn T F b).length ≤ T.length := by
  have h1 : (opn T F b).length ≤ (desc T b).length := List.length_filter_le _ _
  have := desc_len T b
  omega
theorem opn_in (T : List (Int × Int)) (F : Fn) (b : Int) : ∀ x ∈ opn T F b, 0 ≤ x ∧ x < T.length := fun x hx => desc_in T b x ((opn_mem T F b x).1 hx).1
theorem mn_G {T : List (Int × Int)} (h : Tr T) {F : Fn} {b : Int} (hne : opn T F b ≠ []) : 0 ≤ mn T F b ∧ mn T F b ≤ 1000000 ∧ Gq (mn T F b) :=
  mean_G h hne (by have := opn_len T F b; have := h.l30; omega) (opn_in T F b) (mn_eq hne)
theorem way_turn (n : Nat) {T : List (Int × Int)} (h : Tr T) (F : Fn) (hF : MqF F) {PKv : Rat} (I : LvI T F PKv) (b : Int) (b0 : 0 ≤ b) (bn : b < T.length) (Ws : List D) (hl : Ws.length ≤ 100) (o5 o6 o7 o8 o9 e10 e11 e12 : Option E) : ∃ q7 q8 q9, fB (mkCalls prg (n+2) (runs prg (n+2))) (.tp [5, 6]) lvZ (.tup [lI (desc T b), .int (cst T b)]) [some (.d (tD T)), none, none, some (.l (fs T.length F)), some (.l Ws), o5, o6, o7, o8, o9, e10, e11, e12] = .nx [some (.d (tD T)), none, none, some (.l (fs T.length F)), some (.l (Ws ++ ways T F [b])), some (.d (lI (desc T b))), some (.d (.int (cst T b))), q7, q8, q9, e10, e11, e12] := by
  have h30 := h.l30
  have hd := desc_len T b
  have hc := cst_le h b
  have hc1 : ((cst T b : Int) : Rat) ≤ ((30000000 : Int) : Rat) := Rat.intCast_le_intCast.2 hc.2
  have hc2 : (0 : Rat) ≤ ((cst T b : Int) : Rat) := Rat.intCast_nonneg.2 hc.1
  have hc3 : ((30000000 : Int) : Rat) = 30000000 := rfl
  rw [hc3] at hc1
  have hdl : ((desc T b).length : Rat) ≤ 30 := Rat.natCast_le_natCast.2 (by omega : (desc T b).length ≤ 30)
  obtain ⟨q8, e⟩ := lack_loop n (T := T) F hF (some (.d (tD T))) none none (some (.l Ws)) (some (.d (.int (cst T b)))) (some (.l ((opn T F b).map .int))) e10 e11 e12 (desc T b) (cst T b : Rat) o8 (desc_in T b) hc1 (by grind) (Mq.int _)
  have hlc : lcL (lcG (mkCalls prg (n+2) (runs prg (n+2))) [8] (.nm 8) (.pr .isnone (.x (.pr .ix (.slt 3 (.slt 8 .nil))) .nil)) (.var 8)) ((desc T b).map .int) [some (.d (tD T)), none, none, some (.l (fs T.length F)), some (.l Ws), none, some (.d (.int (cst T b))), o7, none, o9, e10, e11, e12] = .ok ((opn T F b).map .int, [some (.d (tD T)), none, none, some (.l (fs T.length F)), some (.l Ws), none, some (.d (.int (cst T b))), o7, none, o9, e10, e11, e12]) := by
    refine lcL_filtm (fun x => (F x).isNone) ?_
    intro z hz
    have hz2 := desc_in T b z hz
    have e1 := ixF T.length F hz2.1 hz2.2
    cases hv : F z with
    | none => rw [hv] at e1; simp only [fD] at e1; simp? only [lcG, e1, Option.isNone_none]
    | some q => rw [hv] at e1; simp only [fD, qD] at e1; simp? only [lcG, e1, Option.isNone_some]
  have hfw : few Ws.length = true := few_leU (by omega)
  by_cases hne : opn T F b = []
  · have hw : ways T F [b] = [] := by unfold ways; rw [List.filter_cons, hne]; rfl
    refine ⟨some (.l ((opn T F b).map .int)), q8, some (.d (qD ((cst T b : Rat) - W F (desc T b)))), ?_⟩
    rw [hw, List.append_nil]
    have ez : eqD (.lst ((opn T F b).map .int)) (.lst []) = some true := by rw [eqD_lI0, decide_eq_true hne]
    simp only [lvA, lvZ, lvW, fbS, hdS, b_levelled, tD, lI, qD_int] at *
    simp? only [fB, lvZ, lvW, fbS, hdS, b_levelled, hlc, e, ez]
  · have hw : ways T F [b] = [way T F b] := by
      unfold ways
      have : (opn T F b).isEmpty = false := by cases hh : opn T F b with | nil => exact absurd hh hne | cons => rfl
      rw [List.filter_cons, this]
      rfl
    have hnf : ¬ full T F b := fun hf => hne (opn_nil.2 hf)
    have hlk : (cst T b : Rat) - W F (desc T b) = ((((opn T F b).map (cs T)).sum : Int) : Rat) := by
      rw [cst_parts T F b, I.kb b b0 bn hnf, ← sumQ_int]
      unfold csQ
      grind
    rw [hlk] at e
    have e3 := in_lowest (n+1) (((opn T F b).map (cs T)).sum) ((opn T F b).length : Int) (by have := List.length_pos_iff.2 hne; omega) (by
      have h1 := opn_len T F b
      have h3 : 31 ≤ 2 ^ 500 := Nat.le_trans (by decide : 31 ≤ 2 ^ 5) (Nat.pow_le_pow_right (by omega) (by omega))
      rw [Int.natAbs_natCast]; omega)
    have e3' : (runs prg (n+2)).1 2 [.d (.int (((opn T F b).map (cs T)).sum)), .d (.int ((opn T F b).length : Int))] = .ok (.d (qD (mn T F b)), [none, none]) := e3
    have ez : eqD (.lst ((opn T F b).map .int)) (.lst []) = some false := by rw [eqD_lI0, decide_eq_false hne]
    have m1 : mulOk 1 ((opn T F b).length : Int) = true := by unfold mulOk; rw [show bits 1 63 = true by decide +kernel]; rfl
    have m2 : (1 : Int) * ((opn T F b).length : Int) = ((opn T F b).length : Int) := Int.one_mul _
    refine ⟨some (.d (lI (opn T F b))), q8, some (.d (.tup [.int (((opn T F b).map (cs T)).sum), .int 1])), ?_⟩
    rw [hw]
    simp only [lvA, lvZ, lvW, fbS, hdS, b_levelled, tD, lI, qD_int, way] at *
    simp? only [fB, lvZ, lvW, fbS, hdS, b_levelled, hlc, e, ez, ix0, ix1, m1, m2, e3', hfw]
theorem way_loop2 (n : Nat) {T : List (Int × Int)} (h : Tr T) (F : Fn) (hF : MqF F) {PKv : Rat} (I : LvI T F PKv) (e10 e11 e12 : Option E) : ∀ (k m : Nat), m + k = T.length → ∀ (Ws : List D), Ws.length ≤ m → ∀ (o5 o6 o7 o8 o9 : Option E), ∃ q5 q6 q7 q8 q9, forL (fB (mkCalls prg (n+2) (runs prg (n+2))) (.tp [5, 6]) lvZ) ((rngA m k).map fun b => D.tup [lI (desc T b), .int (cst T b)]) [some (.d (tD T)), none, none, some (.l (fs T.length F)), some (.l Ws), o5, o6, o7, o8, o9, e10, e11, e12] = .nx [some (.d (tD T)), none, none, some (.l (fs T.length F)), some (.l (Ws ++ ways T F (rngA m k))), q5, q6, q7, q8, q9, e10, e11, e12] := by
  intro k
  induction k with
  | zero => intro m hm Ws hl o5 o6 o7 o8 o9; exact ⟨o5, o6, o7, o8, o9, by simp [rngA, ways, forL]⟩
  | succ k ih =>
    intro m hm Ws hl o5 o6 o7 o8 o9
    have h30 := h.l30
    obtain ⟨q7, q8, q9, e⟩ := way_turn n h F hF I m (by omega) (by omega) Ws (by omega) o5 o6 o7 o8 o9 e10 e11 e12
    have hlt : (ways T F [(m : Int)]).length ≤ 1 := by unfold ways; rw [List.length_map]; exact List.length_filter_le _ _
    obtain ⟨r5, r6, r7, r8, r9, e2⟩ := ih (m + 1) (by omega) (Ws ++ ways T F [(m : Int)]) (by rw [List.length_append]; omega) (some (.d (lI (desc T m)))) (some (.d (.int (cst T m)))) q7 q8 q9
    refine ⟨r5, r6, r7, r8, r9, ?_⟩
    have e3 : ways T F (rngA m (k + 1)) = ways T F [(m : Int)] ++ ways T F (rngA ((m + 1 : Nat) : Int) k) := by
      unfold ways
      rw [rngA, ← List.map_append, ← List.filter_append]
      rfl
    rw [e3, ← List.append_assoc, rngA, List.map_cons, forL_nx e]
    exact e2
end P72M
end
section
set_option linter.all false
set_option maxRecDepth 100000
set_option maxHeartbeats 4000000
namespace P72M
open P72
open PySem EV EU
open L2 (Key)
set_option autoImplicit false
theorem lensOf_map (g : Int → List Int) : ∀ L : List Int, lensOf (L.map fun b => lI (g b)) = some (L.map fun b => (g b).length) := by
  intro L
  induction L with
  | nil => rfl
  | cons a r ih => simp only [List.map_cons, lI, lensOf]; simp only [lI] at ih; rw [ih]; simp
theorem firstMax_le (ls : List Nat) : ∀ k, firstMax ls k ≤ k := by
  intro k
  induction k with
  | zero => exact Nat.le_refl _
  | succ k ih => simp only [firstMax]; split <;> omega
theorem maxLen_some (g : Int → List Int) {L : List Int} (hne : L ≠ []) : ∃ b ∈ L, pMaxLen [.lst (L.map fun b => lI (g b))] = some (.d (lI (g b))) := by
  have hpos := List.length_pos_iff.2 hne
  have hi : firstMax (L.map fun b => (g b).length) (L.length - 1) < L.length := by have := firstMax_le (L.map fun b => (g b).length) (L.length - 1); omega
  refine ⟨L[firstMax (L.map fun b => (g b).length) (L.length - 1)], List.getElem_mem _, ?_⟩
  show (lensOf (L.map fun b => lI (g b))).bind _ = _
  rw [lensOf_map, Option.bind_some, List.length_map, List.getElem?_map, List.getElem?_eq_getElem hi]
  rfl
abbrev lvS : Ss := fbS (hdS 4 lvW)
theorem setF_app (F : Fn) (a : Int) (r : List Int) (p : Rat) : setF (setF F [a] p) r p = setF F (a :: r) p := by
  funext x
  unfold setF
  by_cases h1 : x ∈ r
  · simp [h1]
  · by_cases h2 : x = a <;> simp [h1, h2]
theorem set_loop (n : Nat) {T : List (Int × Int)} (p : Rat) (e0 e1 e2 e4 e5 e6 e7 e9 e11 : Option E) : ∀ (B : List Int) (F : Fn) (o8 : Option E), (∀ x ∈ B, 0 ≤ x ∧ x < T.length) → ∃ q8, forL (fB (mkCalls prg n (runs prg n)) (.nm 8) lvS) (B.map .int) [e0, e1, e2, some (.l (fs T.length F)), e4, e5, e6, e7, o8, e9, some (.d (qD p)), e11, none] = .nx [e0, e1, e2, some (.l (fs T.length (setF F B p))), e4, e5, e6, e7, q8, e9, some (.d (qD p)), e11, none] := by
  intro B
  induction B with
  | nil => intro F o8 _; exact ⟨o8, by rw [show setF F [] p = F from by funext x; simp [setF]]; rfl⟩
  | cons a r ih =>
    intro F o8 hB
    have ha := hB a (by simp)
    obtain ⟨q8, e⟩ := ih (setF F [a] p) (some (.d (.int a))) fun x hx => hB x (List.mem_cons_of_mem _ hx)
    refine ⟨q8, ?_⟩
    rw [← setF_app, List.map_cons, ← e]
    refine forL_nx ?_
    have hl := fs_len T.length F
    have hix := ixN_nn ha.1 ha.2
    rw [← fs_set T.length F p ha.1 ha.2]
    simp? only [fB, lvS, lvW, fbS, hdS, b_levelled, hl, hix]
def opens (n : Nat) (F : Fn) : Bool := (idx n).any fun x => (F x).isNone
theorem body_turn (n : Nat) {T : List (Int × Int)} (h : Tr T) (F : Fn) (hF : MqF F) {PKv : Rat} (I : LvI T F PKv) (ho : opens T.length F = true) (o4 o5 o6 o7 o8 o9 o10 o11 o12 : Option E) : ∃ b p q4 q5 q6 q7 q8 q9 q10 q11 q12, Pick T F b p ∧ 0 ≤ p ∧ p ≤ 1000000 ∧ Mq p ∧ wB (mkCalls prg (n+2) (runs prg (n+2))) lvW [some (.d (tD T)), some (.l (descs T)), some (.l ((idx T.length).map fun i => .int (cst T i))), some (.l (fs T.length F)), o4, o5, o6, o7, o8, o9, o10, o11, o12] = .nx [some (.d (tD T)), some (.l (descs T)), some (.l ((idx T.length).map fun i => .int (cst T i))), some (.l (fs T.length (setF F (opn T F b) p))), q4, q5, q6, q7, q8, q9, q10, q11, q12] := by
  have h30 := h.l30
  obtain ⟨r5, r6, r7, r8, r9, e1⟩ := way_loop2 n h F hF I o10 o11 o12 T.length 0 (by omega) [] (by simp) o5 o6 o7 o8 o9
  have hz := zipL_map (fun i => lI (desc T i)) (fun i => D.int (cst T i)) (idx T.length)
  obtain ⟨L, hL⟩ : ∃ L, L = (idx T.length).filter fun b => !(opn T F b).isEmpty := ⟨_, rfl⟩
  have hLm : ∀ b, b ∈ L ↔ 0 ≤ b ∧ b < T.length ∧ opn T F b ≠ [] := fun b => by
    rw [hL, List.mem_filter, mem_idx]
    cases hh : opn T F b <;> simp [and_assoc]
  have hLl : L.length ≤ 30 := by
    have h1 : L.length ≤ (idx T.length).length := by rw [hL]; exact List.length_filter_le _ _
    have h2 : (idx T.length).length = T.length := rngA_len _ _
    omega
  have hLne : L ≠ [] := by
    unfold opens at ho
    obtain ⟨x, hx, hn⟩ := List.any_eq_true.1 ho
    have hx2 := (mem_idx _ _).1 hx
    have hxo : x ∈ opn T F x := (opn_mem T F x x).2 ⟨desc_self h hx2.1 hx2.2, by cases hv : F x with | none => rfl | some q => rw [hv] at hn; cases hn⟩
    exact List.ne_nil_of_mem ((hLm x).2 ⟨hx2.1, hx2.2, List.ne_nil_of_mem hxo⟩)
  have hw : ways T F (rngA ((0 : Nat) : Int) T.length) = L.map (way T F) := by unfold ways; rw [hL]; rfl
  rw [hw] at e1
  obtain ⟨a, r, har⟩ : ∃ a r, L = a :: r := by cases L with | nil => exact absurd rfl hLne | cons a r => exact ⟨a, r, rfl⟩
  have eg := greatest n (mn T F a) (r.map (mn T F)) (fun q hq => by
    have e : mn T F a :: r.map (mn T F) = L.map (mn T F) := by rw [har]; rfl
    rw [e] at hq
    obtain ⟨b, hb, rfl⟩ := List.mem_map.1 hq
    exact (mn_G h ((hLm b).1 hb).2.2).2.2.sm)
  obtain ⟨p, hp⟩ : ∃ p, p = maxQ (mn T F a) (r.map (mn T F)) := ⟨_, rfl⟩
  obtain ⟨hp1, hp2⟩ := maxQ_spec (r.map (mn T F)) (mn T F a)
  have eL : mn T F a :: r.map (mn T F) = L.map (mn T F) := by rw [har]; rfl
  rw [eL, ← hp] at hp1 hp2
  rw [eL, ← hp, List.map_map] at eg
  obtain ⟨bp, hbp, hbpe⟩ := List.mem_map.1 hp1
  obtain ⟨M, hM⟩ : ∃ M, M = L.filter fun b => decide (mn T F b = p) := ⟨_, rfl⟩
  have hMne : M ≠ [] := List.ne_nil_of_mem (a := bp) (by rw [hM, List.mem_filter]; exact ⟨hbp, decide_eq_true hbpe⟩)
  obtain ⟨b, hb, em⟩ := maxLen_some (opn T F) hMne
  have hb2 : b ∈ L ∧ mn T F b = p := by
    rw [hM, List.mem_filter] at hb
    exact ⟨hb.1, of_decide_eq_true hb.2⟩
  have hbb := (hLm b).1 hb2.1
  have hG := mn_G h hbb.2.2
  rw [hb2.2] at hG
  have hpick : Pick T F b p := by
    refine ⟨hbb.1, hbb.2.1, hbb.2.2, ?_, fun c c0 cn => ?_⟩
    · have := mn_eq hbb.2.2
      rw [hb2.2] at this
      rw [this, ← sumQ_int]
      rfl
    · by_cases hc : opn T F c = []
      · rw [hc]; simp
      · have h1 := mn_eq hc
        have h2 := hp2 _ (List.mem_map.2 ⟨c, (hLm c).2 ⟨c0, cn, hc⟩, rfl⟩)
        have h3 : ((opn T F c).map (csQ T)).sum = mn T F c * ((opn T F c).length : Rat) := by rw [h1, ← sumQ_int]; rfl
        rw [h3]
        exact Rat.mul_le_mul_of_nonneg_right h2 Rat.natCast_nonneg
  refine ⟨b, p, ?_⟩
  obtain ⟨q8, e2⟩ := set_loop (n+2) (T := T) p (some (.d (tD T))) (some (.l (descs T))) (some (.l ((idx T.length).map fun i => .int (cst T i)))) (some (.l (L.map (way T F)))) r5 r6 r7 r9 o11 (opn T F b) F r8 (opn_in T F b)
  have l1 : ∀ (o7 o8 o9 o10 o11 : Option E), lcL (lcG (mkCalls prg (n+2) (runs prg (n+2))) [11, 7] (.tp [11, 7]) (.cst (.bl true)) (.var 11)) (L.map (way T F)) [some (.d (tD T)), some (.l (descs T)), some (.l ((idx T.length).map fun i => .int (cst T i))), some (.l (fs T.length F)), none, r5, r6, none, o8, o9, o10, none, o12] = .ok (L.map fun b => qD (mn T F b), [some (.d (tD T)), some (.l (descs T)), some (.l ((idx T.length).map fun i => .int (cst T i))), some (.l (fs T.length F)), none, r5, r6, none, o8, o9, o10, none, o12]) := by
    intro o7 o8 o9 o10 o11
    refine lcL_mapD (way T F) (fun b => qD (mn T F b)) ?_
    intro z _
    simp only [way]
    simp? only [lcG]
  have l2 : ∀ (o7 o8 o9 o11 : Option E), lcL (lcG (mkCalls prg (n+2) (runs prg (n+2))) [11, 7] (.tp [11, 7]) (.pr .eq (.slt 11 (.slt 10 .nil))) (.var 7)) (L.map (way T F)) [some (.d (tD T)), some (.l (descs T)), some (.l ((idx T.length).map fun i => .int (cst T i))), some (.l (fs T.length F)), none, r5, r6, none, o8, o9, some (.d (qD p)), none, o12] = .ok (M.map fun b => lI (opn T F b), [some (.d (tD T)), some (.l (descs T)), some (.l ((idx T.length).map fun i => .int (cst T i))), some (.l (fs T.length F)), none, r5, r6, none, o8, o9, some (.d (qD p)), none, o12]) := by
    intro o7 o8 o9 o11
    rw [hM]
    clear hM hMne hb em hLm hLl hLne hw eL eg hp1 hp2 hbp hb2 hbb e1 e2 l1 har hL
    induction L with
    | nil => rfl
    | cons z s ih =>
      have eq1 := eqD_q (mn T F z) p
      have ez : lcG (mkCalls prg (n+2) (runs prg (n+2))) [11, 7] (.tp [11, 7]) (.pr .eq (.slt 11 (.slt 10 .nil))) (.var 7) (way T F z) [some (.d (tD T)), some (.l (descs T)), some (.l ((idx T.length).map fun i => .int (cst T i))), some (.l (fs T.length F)), none, r5, r6, none, o8, o9, some (.d (qD p)), none, o12] = .ok (if decide (mn T F z = p) then some (lI (opn T F z)) else none, [some (.d (tD T)), some (.l (descs T)), some (.l ((idx T.length).map fun i => .int (cst T i))), some (.l (fs T.length F)), none, r5, r6, none, o8, o9, some (.d (qD p)), none, o12]) := by
        simp only [way]
        cases hd : decide (mn T F z = p) <;> (rw [hd] at eq1; simp? only [lcG, eq1])
      simp only [List.map_cons, lcL, ez, ih, List.filter_cons]
      cases decide (mn T F z = p) <;> rfl
  have egl := (frz_call prg (n+1) 10 d_greatest [.l (L.map fun b => qD (mn T F b))] [.d (.lst (L.map fun b => qD (mn T F b)))] rfl rfl rfl).trans eg
  refine ⟨some (.l (L.map (way T F))), r5, r6, r7, q8, r9, some (.d (qD p)), o11, some (.d (lI (opn T F b))), hpick, hG.1, hG.2.1, hG.2.2.2.2, ?_⟩
  have l1' := l1 none r8 r9 o10 none
  have l2' := l2 none r8 r9 none
  rw [show (rngA ((0 : Nat) : Int) T.length) = idx T.length from rfl] at e1
  simp only [lvZ, lvS, lvW, fbS, hdS, b_levelled, descs, List.nil_append] at *
  simp_all? only [pAdd, pSub, pMul, pFdiv, pMod, pPow, pNeg, pEq, pNe, pLt, pLe, pGt, pGe, pIsin, pNotin, pIsnone, pNotnone, pIsb, pIsnotb, pIx, pSlc, pRev, pLen, pAbs, pInt, pList, pTuple, pSum, pMax2, pMin2, pMaxL, pMinL, pMinT, pAny, pAll, pSorted, pGcd, pDictK, pIsinst, pLrange, pTrange, pTup, pLst, pNewK, pNewT, inst, setE, scalD, scEq, wB, hz, e1, l1', egl, l2', em]
  rw [show lI (opn T F b) = .lst ((opn T F b).map .int) from rfl]
  simp? only [e2]
end P72M
end
section
set_option linter.all false
set_option maxRecDepth 100000
set_option maxHeartbeats 4000000
namespace P72M
open P72
open PySem EV EU
open L2 (Key)
set_option autoImplicit false
def nOpen (n : Nat) (F : Fn) : Nat := ((idx n).filter fun x => (F x).isNone).length
theorem len_part {α : Type} (p : α → Bool) (L : List α) : L.length = (L.filter p).length + (L.filter fun x => !p x).length := by
  induction L with
  | nil => rfl
  | cons a r ih => rw [List.filter_cons, List.filter_cons]; cases p a <;> simp <;> omega
theorem nOpen_set {n : Nat} {F : Fn} {U : List Int} (hU : U.Pairwise (· < ·)) (hn : ∀ x ∈ U, F x = none) (hi : ∀ x ∈ U, x ∈ idx n) (p : Rat) : nOpen n (setF F U p) + U.length = nOpen n F := by
  unfold nOpen
  have e1 := len_part (fun x => decide (x ∈ U)) ((idx n).filter fun x => (F x).isNone)
  have e2 : ((idx n).filter fun x => (F x).isNone).filter (fun x => decide (x ∈ U)) = U := filt_mem ((rngA_asc _ _).filter _) hU fun x hx => by
    rw [List.mem_filter]; exact ⟨hi x hx, by rw [hn x hx]; rfl⟩
  rw [e2] at e1
  have e3 : (idx n).filter (fun x => (setF F U p x).isNone) = ((idx n).filter fun x => (F x).isNone).filter fun x => !decide (x ∈ U) := by
    rw [List.filter_filter]
    apply List.filter_congr
    intro x _
    unfold setF
    by_cases h : x ∈ U <;> simp [h]
  rw [e3]
  omega
theorem opens_false {n : Nat} {F : Fn} (h : opens n F = false) : ∀ x : Int, 0 ≤ x → x < n → ∃ q, F x = some q := by
  intro x h0 hx
  unfold opens at h
  cases hv : F x with
  | some q => exact ⟨q, rfl⟩
  | none =>
    have : (idx n).any (fun x => (F x).isNone) = true := List.any_eq_true.2 ⟨x, (mem_idx _ _).2 ⟨h0, hx⟩, by rw [hv]; rfl⟩
    rw [h] at this; cases this
theorem lv_while (n : Nat) {T : List (Int × Int)} (h : Tr T) {PKv : Rat} (hPK : 0 < T.length → PKv = PK T) : ∀ (c m : Nat) (F : Fn), nOpen T.length F ≤ c → c < m → MqF F → LvI T F PKv → ∀ (o4 o5 o6 o7 o8 o9 o10 o11 o12 : Option E), ∃ F' q4 q5 q6 q7 q8 q9 q10 q11 q12, MqF F' ∧ LvI T F' PKv ∧ opens T.length F' = false ∧ whileF (wC (mkCalls prg (n+2) (runs prg (n+2))) (.pr .isin (.x (.cst .non) (.slt 3 .nil)))) (wB (mkCalls prg (n+2) (runs prg (n+2))) lvW) m [some (.d (tD T)), some (.l (descs T)), some (.l ((idx T.length).map fun i => .int (cst T i))), some (.l (fs T.length F)), o4, o5, o6, o7, o8, o9, o10, o11, o12] = .nx [some (.d (tD T)), some (.l (descs T)), some (.l ((idx T.length).map fun i => .int (cst T i))), some (.l (fs T.length F')), q4, q5, q6, q7, q8, q9, q10, q11, q12] := by
  intro c
  induction c with
  | zero =>
    intro m F hc hm hF I o4 o5 o6 o7 o8 o9 o10 o11 o12
    have hop : opens T.length F = false := by
      cases ho : opens T.length F with
      | false => rfl
      | true =>
        unfold opens at ho
        obtain ⟨x, hx, hn⟩ := List.any_eq_true.1 ho
        have : 0 < nOpen T.length F := List.length_pos_of_mem (List.mem_filter.2 ⟨hx, hn⟩)
        omega
    obtain ⟨m, rfl⟩ : ∃ q, m = q + 1 := ⟨m - 1, by omega⟩
    refine ⟨F, o4, o5, o6, o7, o8, o9, o10, o11, o12, hF, I, hop, whileF_end ?_⟩
    have e := inD_none T.length F
    rw [show (idx T.length).any (fun x => (F x).isNone) = false from hop] at e
    simp? only [wC, e]
  | succ c ih =>
    intro m F hc hm hF I o4 o5 o6 o7 o8 o9 o10 o11 o12
    obtain ⟨m, rfl⟩ : ∃ q, m = q + 1 := ⟨m - 1, by omega⟩
    have e := inD_none T.length F
    cases ho : opens T.length F with
    | false =>
      refine ⟨F, o4, o5, o6, o7, o8, o9, o10, o11, o12, hF, I, ho, whileF_end ?_⟩
      rw [show (idx T.length).any (fun x => (F x).isNone) = false from ho] at e
      simp? only [wC, e]
    | true =>
      rw [show (idx T.length).any (fun x => (F x).isNone) = true from ho] at e
      obtain ⟨b, p, q4, q5, q6, q7, q8, q9, q10, q11, q12, hp, p0, p1, p2, eb⟩ := body_turn n h F hF I ho o4 o5 o6 o7 o8 o9 o10 o11 o12
      have hn : 0 < T.length := by have := hp.b0; have := hp.bn; omega
      have hPKe := hPK hn
      obtain ⟨⟨bm, bm0, bmn, bme⟩, hle⟩ := PK_spec hn
      have I2 := I.step h hp (fun c c0 cn => by
        rw [← pk_eq h c0 cn, hPKe]
        exact Rat.mul_le_mul_of_nonneg_right (hle c c0 cn) Rat.natCast_nonneg) ⟨bm, bm0, bmn, by rw [← pk_eq h bm0 bmn, hPKe, bme]⟩
      have hcnt := nOpen_set (n := T.length) (F := F) (opn_asc T F b) (fun x hx => ((opn_mem T F b x).1 hx).2) (fun x hx => (mem_idx _ _).2 (opn_in T F b x hx)) p
      have hpos := List.length_pos_iff.2 hp.ne
      have hF2 : MqF (setF F (opn T F b) p) := fun x q hq => by
        unfold setF at hq
        split at hq
        · injection hq with hq; subst hq; exact ⟨p0, p1, p2⟩
        · exact hF x q hq
      obtain ⟨F', r4, r5, r6, r7, r8, r9, r10, r11, r12, k1, k2, k3, k4⟩ := ih m (setF F (opn T F b) p) (by omega) (by omega) hF2 I2 q4 q5 q6 q7 q8 q9 q10 q11 q12
      refine ⟨F', r4, r5, r6, r7, r8, r9, r10, r11, r12, k1, k2, k3, ?_⟩
      rw [← k4]
      refine whileF_step (ρ1 := [some (.d (tD T)), some (.l (descs T)), some (.l ((idx T.length).map fun i => .int (cst T i))), some (.l (fs T.length F)), o4, o5, o6, o7, o8, o9, o10, o11, o12]) ?_ eb
      simp? only [wC, e]
theorem LvI.start {T : List (Int × Int)} (h : Tr T) (PKv : Rat) : LvI T (fun _ => none) PKv := by
  have hW : ∀ L, W (fun _ => none) L = 0 := fun L => by
    unfold W
    have : L.map (vF fun _ => none) = L.map fun _ => (0 : Rat) := List.map_congr_left fun x _ => rfl
    rw [this, sumQ_const]
    exact Rat.mul_zero _
  have hC : ∀ L, CD T (fun _ => none) L = 0 := fun L => by
    unfold CD
    have : (L.map fun x => if (none : Option Rat).isSome then csQ T x else 0) = L.map fun _ => (0 : Rat) := List.map_congr_left fun x _ => rfl
    rw [this, sumQ_const]
    exact Rat.mul_zero _
  refine ⟨by rw [hW, hC], fun b _ _ _ => (by rw [hW, hC]), fun b b0 bn hf => ?_, fun x q _ _ hq => (by cases hq), fun b x q _ _ hq => (by cases hq), fun _ _ => rfl, fun x q hq => (by cases hq), .inl fun _ => rfl⟩
  have := hf b (desc_self h b0 bn)
  cases this
/-- what levelled amounts are -/
structure Lvl (T : List (Int × Int)) (A : Int → Rat) : Prop where
  fair : Fair T A
  held : ∀ x y : Int, 0 ≤ x → x < T.length → 0 ≤ y → y < T.length → A y < A x → ∃ b : Int, 0 ≤ b ∧ b < T.length ∧ x ∈ desc T b ∧ y ∉ desc T b ∧ ((desc T b).map A).sum = (cst T b : Rat)
  peak : 0 < T.length → (∀ x : Int, 0 ≤ x → x < T.length → A x ≤ PK T) ∧ ∃ x : Int, 0 ≤ x ∧ x < T.length ∧ A x = PK T
theorem lvl_of {T : List (Int × Int)} (h : Tr T) {F : Fn} (hF : MqF F) (I : LvI T F (PK T)) (ho : opens T.length F = false) : Lvl T (vF F) := by
  have hall := opens_false ho
  have hfull : ∀ b, full T F b := fun b x hx => by
    have := desc_in T b x hx
    obtain ⟨q, hq⟩ := hall x this.1 this.2
    rw [hq]; rfl
  have hv : ∀ x q, F x = some q → vF F x = q := fun x q hq => by unfold vF; rw [hq]; rfl
  refine ⟨⟨fun x x0 xn => ?_, ?_, fun b b0 bn => I.cov b b0 bn (hfull b)⟩, fun x y x0 xn y0 yn hlt => ?_, fun hn => ⟨fun x x0 xn => ?_, ?_⟩⟩
  · obtain ⟨q, hq⟩ := hall x x0 xn
    rw [hv x q hq]
    exact ⟨(hF x q hq).1, (hF x q hq).2.2⟩
  · have h1 := I.all
    unfold W at h1
    rw [h1]
    unfold CD tot
    rw [← sumQ_int]
    congr 1
    apply List.map_congr_left
    intro x hx
    have hx2 := (mem_idx _ _).1 hx
    obtain ⟨q, hq⟩ := hall x hx2.1 hx2.2
    rw [hq]
    rfl
  · obtain ⟨q, hq⟩ := hall x x0 xn
    rw [hv x q hq] at hlt
    obtain ⟨b, b0, bn, hxb, _, hw, hmin⟩ := I.tig x q x0 xn hq
    exact ⟨b, b0, bn, hxb, fun hy => by have := hmin y hy; grind, hw⟩
  · obtain ⟨q, hq⟩ := hall x x0 xn
    rw [hv x q hq]
    exact (I.pk x q hq).2
  · rcases I.hit with hn2 | ⟨x, x0, xn, hx⟩
    · obtain ⟨q, hq⟩ := hall 0 (by omega) (by omega)
      rw [hn2 0] at hq; cases hq
    · exact ⟨x, x0, xn, hv x _ hx⟩
theorem levelled (n : Nat) {T : List (Int × Int)} (h : Tr T) : ∃ A, Lvl T A ∧ (runs prg (n+4)).1 12 [.d (tD T)] = .ok (.d (.tup (qs T.length A)), [none]) := by
  have h30 := h.l30
  have e1 := need_tree n h
  have e2 := branches (n+2) h
  have e3 := costs_in (n+1) h
  have hm := mul_rep .non (n := T.length) (by omega)
  have hc : nOpen T.length (fun _ => none) ≤ 30 := by
    have h2 : (idx T.length).length = T.length := rngA_len _ _
    have h3 : nOpen T.length (fun _ => none) ≤ (idx T.length).length := List.length_filter_le _ _
    omega
  obtain ⟨F, q4, q5, q6, q7, q8, q9, q10, q11, q12, hF, I, ho, e4⟩ := lv_while (n+1) h (PKv := PK T) (fun _ => rfl) 30 fuelW (fun _ => none) hc (by decide) (fun x q hq => by cases hq) (LvI.start h _) none none none none none none none none none
  refine ⟨vF F, lvl_of h hF I ho, ?_⟩
  have hall := opens_false ho
  have efs : fs T.length F = qs T.length (vF F) := by
    unfold fs qs
    apply List.map_congr_left
    intro x hx
    have hx2 := (mem_idx _ _).1 hx
    obtain ⟨q, hq⟩ := hall x hx2.1 hx2.2
    unfold vF
    rw [hq]
    rfl
  rw [efs] at e4
  rw [show fs T.length (fun _ => none) = (idx T.length).map fun _ => D.non from rfl] at e4
  rw [run_s (n+3) 12 _ d_levelled rfl]
  simp only [lvW, fbS, hdS, b_levelled, descs, tD] at *
  simp_all? only [pAdd, pSub, pFdiv, pMod, pPow, pNeg, pEq, pNe, pLt, pLe, pGt, pGe, pIsin, pNotin, pIsnone, pNotnone, pIsb, pIsnotb, pIx, pSlc, pRev, pLen, pAbs, pInt, pList, pTuple, pSum, pMax2, pMin2, pMaxL, pMinL, pMinT, pAny, pAll, pSorted, pGcd, pDictK, pIsinst, pLrange, pTrange, pTup, pLst, pNewK, pNewT, inst, setE, scalD, scEq, d_levelled, b_levelled, e1, e2, e3, hm, e4, List.length_map]
end P72M
end
section
set_option linter.all false
set_option maxRecDepth 100000
set_option maxHeartbeats 4000000
namespace P72M
open P72
open PySem EV EU
open L2 (Key)
set_option autoImplicit false
theorem ev_Fair {T : List (Int × Int)} (h : Tr T) : Fair T (ev T T.length) := by
  refine ⟨fun x x0 xn => ?_, ?_, fun b b0 bn => ev_fair h b0 bn⟩
  · have := ev_b h x T.length (Nat.le_refl _)
    exact ⟨this.1, this.2.2⟩
  · exact ev_all h
theorem rngA_shift (n : Nat) : ∀ lo, rngA (lo + 1) n = (rngA lo n).map (· + 1) := by
  induction n with
  | zero => intro lo; rfl
  | succ n ih => intro lo; rw [rngA, rngA, List.map_cons, ih]
abbrev hlB : Ss := fbS (hdS 7 b__law_right)
abbrev hlI : Ss := fbS (hdS 0 hlB)
theorem held_turn (n : Nat) {T : List (Int × Int)} (h : Tr T) {A : Int → Rat} (v : Lvl T A) (x y : Int) (x0 : 0 ≤ x) (xn : x < T.length) (y0 : 0 ≤ y) (yn : y < T.length) (e1 o2 o3 o4 e5 o6 e7 e9 o12 : Option E) : fB (mkCalls prg (n+1) (runs prg (n+1))) (.nm 12) hlI (.int y) [some (.d (tD T)), e1, o2, o3, o4, e5, o6, e7, some (.d (.tup (qs T.length A))), e9, some (.d (.lst (tights T A (idx T.length)))), some (.d (.int x)), o12] = .nx [some (.d (tD T)), e1, o2, o3, o4, e5, o6, e7, some (.d (.tup (qs T.length A))), e9, some (.d (.lst (tights T A (idx T.length)))), some (.d (.int x)), some (.d (.int y))] := by
  have i1 := ixM (fun z => qD (A z)) T.length x0 xn
  have i2 := ixM (fun z => qD (A z)) T.length y0 yn
  have i1' : ixD (qs T.length A) x = some (qD (A x)) := i1
  have i2' : ixD (qs T.length A) y = some (qD (A y)) := i2
  have e := law_less n (v.fair.G h y0 yn).sm (v.fair.G h x0 xn).sm
  cases hd : decide (A y < A x) with
  | false =>
    rw [hd] at e
    simp only [qD] at *
    simp? only [fB, hlI, hlB, fbS, hdS, b__law_right, i1', i2', e]
  | true =>
    rw [hd] at e
    obtain ⟨b, b0, bn, hxb, hyb, hbt⟩ := v.held x y x0 xn y0 yn (of_decide_eq_true hd)
    have hlc : lcL (lcG (mkCalls prg (n+1) (runs prg (n+1))) [3] (.nm 3) (.and (.pr .isin (.slt 11 (.slt 3 .nil))) (.pr .notin (.slt 12 (.slt 3 .nil)))) (.var 3)) (tights T A (idx T.length)) [some (.d (tD T)), e1, o2, none, o4, e5, o6, e7, some (.d (.tup (qs T.length A))), e9, none, some (.d (.int x)), some (.d (.int y))] = .ok ((((idx T.length).filter fun b => decide (((desc T b).map A).sum = (cst T b : Rat))).filter fun b => decide (x ∈ desc T b) && decide (y ∉ desc T b)).map (fun b => lI (desc T b)), [some (.d (tD T)), e1, o2, none, o4, e5, o6, e7, some (.d (.tup (qs T.length A))), e9, none, some (.d (.int x)), some (.d (.int y))]) := by
      unfold tights
      generalize (idx T.length).filter (fun b => decide (((desc T b).map A).sum = (cst T b : Rat))) = L
      induction L with
      | nil => rfl
      | cons z s ih =>
        have c1 := inD_int x (desc T z)
        have c2 := inD_int y (desc T z)
        rw [contains_dec] at c1 c2
        have ez : lcG (mkCalls prg (n+1) (runs prg (n+1))) [3] (.nm 3) (.and (.pr .isin (.slt 11 (.slt 3 .nil))) (.pr .notin (.slt 12 (.slt 3 .nil)))) (.var 3) (lI (desc T z)) [some (.d (tD T)), e1, o2, none, o4, e5, o6, e7, some (.d (.tup (qs T.length A))), e9, none, some (.d (.int x)), some (.d (.int y))] = .ok (if decide (x ∈ desc T z) && decide (y ∉ desc T z) then some (lI (desc T z)) else none, [some (.d (tD T)), e1, o2, none, o4, e5, o6, e7, some (.d (.tup (qs T.length A))), e9, none, some (.d (.int x)), some (.d (.int y))]) := by
          rw [decide_not]
          simp only [lI]
          cases h1 : decide (x ∈ desc T z) <;> cases h2 : decide (y ∈ desc T z) <;> (rw [h1] at c1; rw [h2] at c2; simp? only [lcG, c1, c2])
        simp only [List.map_cons, lcL, ez, ih, List.filter_cons]
        cases decide (x ∈ desc T z) && decide (y ∉ desc T z) <;> rfl
    have hem := eqD_empL (xs := (((idx T.length).filter fun b => decide (((desc T b).map A).sum = (cst T b : Rat))).filter fun b => decide (x ∈ desc T b) && decide (y ∉ desc T b)).map (fun b => lI (desc T b))) (fun z hz => by
      obtain ⟨b, _, rfl⟩ := List.mem_map.1 hz
      exact .lI _ _)
    have hne : ((((idx T.length).filter fun b => decide (((desc T b).map A).sum = (cst T b : Rat))).filter fun b => decide (x ∈ desc T b) && decide (y ∉ desc T b)).map (fun b => lI (desc T b))).isEmpty = false := by
      rw [isEmpty_map]
      have hm : b ∈ ((idx T.length).filter fun b => decide (((desc T b).map A).sum = (cst T b : Rat))).filter fun b => decide (x ∈ desc T b) && decide (y ∉ desc T b) := by
        rw [List.mem_filter, List.mem_filter]
        refine ⟨⟨(mem_idx _ _).2 ⟨b0, bn⟩, decide_eq_true hbt⟩, ?_⟩
        rw [decide_eq_true hxb, decide_eq_true hyb]; rfl
      revert hm
      cases ((idx T.length).filter fun b => decide (((desc T b).map A).sum = (cst T b : Rat))).filter fun b => decide (x ∈ desc T b) && decide (y ∉ desc T b) with
      | nil => intro hm; simp at hm
      | cons => intro _; rfl
    rw [hne] at hem
    simp only [qD] at *
    simp? only [fB, hlI, hlB, fbS, hdS, b__law_right, i1', i2', e, hlc, hem]
theorem held_in (n : Nat) {T : List (Int × Int)} (h : Tr T) {A : Int → Rat} (v : Lvl T A) (x : Int) (x0 : 0 ≤ x) (xn : x < T.length) (e1 o2 o3 o4 e5 o6 e7 e9 : Option E) : ∀ (L : List Int), (∀ y ∈ L, 0 ≤ y ∧ y < T.length) → ∀ (o12 : Option E), ∃ q12, forL (fB (mkCalls prg (n+1) (runs prg (n+1))) (.nm 12) hlI) (L.map .int) [some (.d (tD T)), e1, o2, o3, o4, e5, o6, e7, some (.d (.tup (qs T.length A))), e9, some (.d (.lst (tights T A (idx T.length)))), some (.d (.int x)), o12] = .nx [some (.d (tD T)), e1, o2, o3, o4, e5, o6, e7, some (.d (.tup (qs T.length A))), e9, some (.d (.lst (tights T A (idx T.length)))), some (.d (.int x)), q12] := by
  intro L
  induction L with
  | nil => intro _ o12; exact ⟨o12, rfl⟩
  | cons y r ih =>
    intro hL o12
    have hy := hL y (by simp)
    obtain ⟨q12, e⟩ := ih (fun z hz => hL z (List.mem_cons_of_mem _ hz)) (some (.d (.int y)))
    refine ⟨q12, ?_⟩
    rw [List.map_cons, forL_nx (held_turn n h v x y x0 xn hy.1 hy.2 e1 o2 o3 o4 e5 o6 e7 e9 o12), e]
theorem held_all (n : Nat) {T : List (Int × Int)} (h : Tr T) {A : Int → Rat} (v : Lvl T A) (e1 o2 o3 o4 e5 o6 e7 e9 : Option E) : ∀ (L : List Int), (∀ y ∈ L, 0 ≤ y ∧ y < T.length) → ∀ (o11 o12 : Option E), ∃ q11 q12, forL (fB (mkCalls prg (n+1) (runs prg (n+1))) (.nm 11) hlB) (L.map .int) [some (.d (tD T)), e1, o2, o3, o4, e5, o6, e7, some (.d (.tup (qs T.length A))), e9, some (.d (.lst (tights T A (idx T.length)))), o11, o12] = .nx [some (.d (tD T)), e1, o2, o3, o4, e5, o6, e7, some (.d (.tup (qs T.length A))), e9, some (.d (.lst (tights T A (idx T.length)))), q11, q12] := by
  intro L
  induction L with
  | nil => intro _ o11 o12; exact ⟨o11, o12, rfl⟩
  | cons x r ih =>
    intro hL o11 o12
    have hx := hL x (by simp)
    obtain ⟨r12, e1'⟩ := held_in n h v x hx.1 hx.2 e1 o2 o3 o4 e5 o6 e7 e9 (idx T.length) (fun y hy => (mem_idx _ _).1 hy) o12
    obtain ⟨q11, q12, e2'⟩ := ih (fun z hz => hL z (List.mem_cons_of_mem _ hz)) (some (.d (.int x))) r12
    refine ⟨q11, q12, ?_⟩
    have hr := rngT h
    rw [List.map_cons, ← e2']
    refine forL_nx ?_
    simp only [hlI, hlB, fbS, hdS, b__law_right, tD] at *
    simp? only [fB, hr, List.length_map, e1']
theorem right_empty (n : Nat) : (runs prg (n+8)).1 30 [.d (.tup [])] = .ok (.d (.bl true), [none]) := by kernel_rfl
end P72M
end
section
set_option linter.all false
set_option maxRecDepth 100000
set_option maxHeartbeats 4000000
namespace P72M
open P72
open PySem EV EU
open L2 (Key)
set_option autoImplicit false
theorem qs_len (n : Nat) (g : Int → Rat) : (qs n g).length = n := by unfold qs; rw [List.length_map]; exact rngA_len _ _
theorem pln_qs (n : Nat) (g : Int → Rat) (k : Nat) : Pln (k + 2) (.tup (qs n g)) := .tup _ _ fun x hx => by
  obtain ⟨z, _, rfl⟩ := List.mem_map.1 hx
  exact pln_q _ _
theorem law_right (n : Nat) {T : List (Int × Int)} (h : Tr T) (hT : 0 < T.length) : (runs prg (n+8)).1 30 [.d (tD T)] = .ok (.d (.bl true), [none]) := by
  have h30 := h.l30
  obtain ⟨A, v, eA⟩ := levelled (n+3) h
  have hm := mul_rep (D.tup [.int 0, .int 1]) (n := T.length) (by omega)
  rw [← qs_ev0] at hm
  obtain ⟨q2, q3, q4, eL⟩ := lv_loop (n+5) h none none none none none none none none T.length 0 (by omega) none none none
  have hr := rngT h
  have r2 := rng2_map (a := 1) (b := (T.length : Int) + 1) (small_of (by omega) (by omega)) (small_of (by omega) (by omega)) (by omega)
  rw [show ((T.length : Int) + 1 - 1).toNat = T.length by omega] at r2
  obtain ⟨⟨bm, bm0, bmn, bme⟩, hle⟩ := PK_spec hT
  have hPS : ∀ q ∈ (idx T.length).map (pk T), Sm q := fun q hq => by
    obtain ⟨b, hb, rfl⟩ := List.mem_map.1 hq
    have := (mem_idx _ _).1 hb
    exact (pk_G h this.1 this.2).2.2.sm
  have hil : (idx T.length).length = T.length := rngA_len _ _
  obtain ⟨e5, he5, eO⟩ := law_order (n+6) ((idx T.length).map (pk T)) hPS (by rw [List.length_map]; omega)
  obtain ⟨ho1, ho2⟩ := ordQ_spec ((idx T.length).map (pk T))
  have hPKm : PK T ∈ ordQ ((idx T.length).map (pk T)) := (ho2 _).2 (List.mem_map.2 ⟨bm, (mem_idx _ _).2 ⟨bm0, bmn⟩, bme⟩)
  have hPKl : ∀ x ∈ ordQ ((idx T.length).map (pk T)), x ≤ PK T := fun x hx => by
    obtain ⟨b, hb, rfl⟩ := List.mem_map.1 ((ho2 x).1 hx)
    have := (mem_idx _ _).1 hb
    exact hle b this.1 this.2
  have hlast := last_asc ho1 hPKm hPKl
  have hemp := eqD_empL (xs := (ordQ ((idx T.length).map (pk T))).map qD) (fun x hx => by obtain ⟨q, _, rfl⟩ := List.mem_map.1 hx; exact .q _ _)
  rw [isEmpty_map, show (ordQ ((idx T.length).map (pk T))).isEmpty = false by cases hh : ordQ ((idx T.length).map (pk T)) with | nil => rw [hh] at hPKm; simp at hPKm | cons => rfl] at hemp
  have hTne : T ≠ [] := List.length_pos_iff.1 hT
  have eP := least_peak (n+3) h
  rw [if_neg hTne] at eP
  have eE := even_amounts (n+3) h
  have eK := like_refl 3 (n+2) (.lst [.tup (qs T.length (ev T T.length)), qD (PK T)]) (.lst _ _ fun x hx => by
    simp only [List.mem_cons, List.not_mem_nil, or_false] at hx
    rcases hx with h | h <;> subst h
    · exact pln_qs _ _ _
    · exact pln_q _ _)
  replace eK := (frz_call prg (n+6) 17 d__law_like [.l [.tup (qs T.length (ev T T.length)), qD (PK T)], .l [.tup (qs T.length (ev T T.length)), qD (PK T)]] _ rfl rfl rfl).trans eK
  have eS := law_sort (n+6) 2 (.tup (qs T.length A)) (pln_qs _ _ _)
  have eF := law_are_fair (n+3) h v.fair
  have eG := law_are_fair (n+3) h (ev_Fair h)
  obtain ⟨e6, he6, eO2⟩ := law_order (n+6) ((idx T.length).map A) (fun q hq => by
    obtain ⟨b, hb, rfl⟩ := List.mem_map.1 hq
    have := (mem_idx _ _).1 hb
    exact (v.fair.G h this.1 this.2).sm) (by rw [List.length_map]; omega)
  obtain ⟨ho3, ho4⟩ := ordQ_spec ((idx T.length).map A)
  obtain ⟨hpl, xp, xp0, xpn, hpe⟩ := v.peak hT
  have hlast2 := last_asc (M := PK T) ho3 ((ho4 _).2 (List.mem_map.2 ⟨xp, (mem_idx _ _).2 ⟨xp0, xpn⟩, hpe⟩)) (fun x hx => by
    obtain ⟨b, hb, rfl⟩ := List.mem_map.1 ((ho4 x).1 hx)
    have := (mem_idx _ _).1 hb
    exact hpl b this.1 this.2)
  have eA2 : (((idx T.length).map A).map qD) = qs T.length A := by rw [List.map_map]; rfl
  rw [eA2] at eO2
  have eO2l := (frz_call prg (n+6) 20 d__law_order [.l (qs T.length A)] [.d (.lst (qs T.length A))] rfl rfl rfl).trans eO2
  have eqP := eqD_q (PK T) (PK T)
  have hql := qs_len T.length A
  -- the peaks
  have hlc : ∀ (e1 o2 o3 o4 : Option E), lcL (lcG (mkCalls prg (n+7) (runs prg (n+7))) [6] (.nm 6) (.cst (.bl true)) (.call 18 (.x (.call 25 (.x (.var 0) (.x (.var 6) .nil))) (.x (.pr .len (.x (.call 24 (.x (.var 0) (.x (.var 6) .nil))) .nil)) .nil)))) ((rngA 1 T.length).map .int) [some (.d (tD T)), e1, o2, o3, o4, none, none, none, none, none, none, none, none] = .ok (((idx T.length).map (pk T)).map qD, [some (.d (tD T)), e1, o2, o3, o4, none, none, none, none, none, none, none, none]) := by
    intro e1 o2 o3 o4
    have h1 : (rngA 1 T.length).map D.int = (idx T.length).map fun b => D.int (b + 1) := by
      have := rngA_shift T.length 0
      rw [show (0 : Int) + 1 = 1 by omega] at this
      rw [this, List.map_map]; rfl
    rw [h1, List.map_map]
    refine lcL_mapD (fun b => D.int (b + 1)) (fun b => qD (pk T b)) ?_
    intro b hb
    have hb2 := (mem_idx _ _).1 hb
    have c1 := law_cost (n+4) h b
    have c2 := law_branch (n+5) h b
    have hdp := desc_pos h hb2.1 hb2.2
    have c3 := law_low (n+6) (cst T b) ((desc T b).length : Int) (by omega) (Nat.lt_of_lt_of_le (len_500 T h b) (Nat.pow_le_pow_right (by omega) (by omega)))
    rw [lowP_pk] at c3
    simp? only [lcG, c1, c2, List.length_map, c3]
  have eOl := (frz_call prg (n+6) 20 d__law_order [.l (((idx T.length).map (pk T)).map qD)] [.d (.lst (((idx T.length).map (pk T)).map qD))] rfl rfl rfl).trans eO
  rw [show (rngA ((0 : Nat) : Int) T.length) = idx T.length from rfl] at eL
  have hlcN := hlc (some (.l (qs T.length (ev T T.length)))) q2 q3 q4
  obtain ⟨q11, q12, eH⟩ := held_all (n+6) h v (some (.l (qs T.length (ev T T.length)))) q2 q3 q4 (some e5) none (some (.d (qD (PK T)))) (some (.d (.bl true))) (idx T.length) (fun y hy => (mem_idx _ _).1 hy) none none
  obtain ⟨P1, hP1⟩ : ∃ P1, P1 = ((idx T.length).map (pk T)).map qD := ⟨_, rfl⟩
  obtain ⟨P2, hP2⟩ : ∃ P2, P2 = (ordQ ((idx T.length).map (pk T))).map qD := ⟨_, rfl⟩
  obtain ⟨P3, hP3⟩ : ∃ P3, P3 = (ordQ ((idx T.length).map A)).map qD := ⟨_, rfl⟩
  rw [← hP1] at eOl hlcN
  rw [← hP2] at he5 hlast hemp
  rw [← hP3] at he6 hlast2
  rw [run_s (n+7) 30 _ d__law_right rfl]
  simp only [hlB, hlI, lvB, fbS, hdS, b__law_right, tD, qD, sortN] at *
  rcases he5 with rfl | rfl <;> rcases he6 with rfl | rfl <;>
  simp_all? only [pAdd, pSub, pFdiv, pMod, pPow, pNeg, pEq, pNe, pLt, pLe, pGt, pGe, pIsin, pNotin, pIsnone, pNotnone, pIsb, pIsnotb, pIx, pSlc, pRev, pLen, pAbs, pInt, pList, pTuple, pSum, pMax2, pMin2, pMaxL, pMinL, pMinT, pAny, pAll, pSorted, pGcd, pDictK, pIsinst, pLrange, pTrange, pTup, pLst, pNewK, pNewT, inst, setE, scalD, scEq, d__law_right, b__law_right, hm, hr, eL, r2, hlcN, eOl, eP, eA, hemp, hlast, eE, eK, eS, hql, List.length_map, eF, eG, ix0, eO2l, hlast2, eqP, eH]
end P72M
end
section
set_option linter.all false
set_option maxRecDepth 100000
set_option maxHeartbeats 4000000
namespace P72M
open P72
open PySem EV EU
open L2 (Key)
set_option autoImplicit false
/-! drawn trees -/
def TI (T : List (Int × Int)) : Prop := ∀ i : Nat, i < T.length → 0 ≤ (T.getD i (0, 0)).1 ∧ (T.getD i (0, 0)).1 ≤ i ∧ 0 ≤ (T.getD i (0, 0)).2 ∧ (T.getD i (0, 0)).2 ≤ 1000000
theorem TI.tr {T : List (Int × Int)} (h : TI T) (hl : T.length ≤ 30) : Tr T := by
  refine ⟨hl, fun x x0 xn => ?_, fun x x0 xn => ?_⟩
  · have := h x.toNat (by omega); unfold bf; omega
  · have := h x.toNat (by omega); unfold cs; omega
theorem TI.snoc {T : List (Int × Int)} (h : TI T) {a b : Int} (a0 : 0 ≤ a) (a1 : a ≤ T.length) (b0 : 0 ≤ b) (b1 : b ≤ 1000000) : TI (T ++ [(a, b)]) := by
  intro i hi
  rw [List.length_append] at hi
  by_cases e : i < T.length
  · rw [List.getD_eq_getElem?_getD, List.getElem?_append_left e, ← List.getD_eq_getElem?_getD]
    exact h i e
  · have : i = T.length := by simp at hi; omega
    subst this
    rw [List.getD_eq_getElem?_getD, List.getElem?_append_right (Nat.le_refl _)]
    simp
    omega
abbrev trB : Ss := fbS (hdS 1 b__law_tree)
theorem tr_turn (n : Nat) (T : List (Int × Int)) (hT : TI T) (hl : T.length ≤ 30) (cost w : Int) (hc0 : 0 ≤ cost) (hc1 : cost ≤ 1000000) (hw : w = 0 ∨ w = 1 ∨ w = 2 ∨ w = 3) (c : E) (hc : Cup c) (e1 o5 o6 : Option E) : ∃ c' T' q5 q6, Cup c' ∧ TI T' ∧ T'.length = T.length + 1 ∧ fB (mkCalls prg (n+2) (runs prg (n+2))) (.nm 5) trB (.int (T.length : Int)) [some c, e1, some (.d (.int cost)), some (.d (.int w)), some (.l (T.map pD)), o5, o6] = .nx [some c', e1, some (.d (.int cost)), some (.d (.int w)), some (.l (T'.map pD)), q5, q6] := by
  have hf : few T.length = true := few_leU (by omega)
  have pick : ∀ (c : E), Cup c → ∃ z c1 c2, Cup c1 ∧ Cup c2 ∧ 0 ≤ z ∧ z ≤ 1000000 ∧ ∃ v, (runs prg (n+2)).1 14 [c, .d (.int (cost + 1))] = .ok (.d (.int v), [some c1, none]) ∧ (runs prg (n+2)).1 15 [c1, .l [.int 0, .int 1, .int 3, .int 7, .int v]] = .ok (.d (.int z), [some c2, none]) := by
    intro c hc
    obtain ⟨v, c1, hc1', v0, v1, ev⟩ := rollC (n+1) hc (cost + 1) (by omega) (by omega)
    obtain ⟨x, hx, c2, hc2, e2, _⟩ := someC n hc1' [.int 0, .int 1, .int 3, .int 7, .int v] (by simp) (by simp)
    obtain ⟨z, rfl, z0, z1⟩ : ∃ z, x = .int z ∧ 0 ≤ z ∧ z ≤ 1000000 := by
      simp only [List.mem_cons, List.not_mem_nil, or_false] at hx
      rcases hx with h | h | h | h | h <;> subst h
      · exact ⟨0, rfl, by omega, by omega⟩
      · exact ⟨1, rfl, by omega, by omega⟩
      · exact ⟨3, rfl, by omega, by omega⟩
      · exact ⟨7, rfl, by omega, by omega⟩
      · exact ⟨v, rfl, by omega, by omega⟩
    exact ⟨z, c1, c2, hc1', hc2, z0, z1, v, ev, e2⟩
  rcases hw with rfl | rfl | rfl | rfl
  · obtain ⟨z, c1, c2, hc1', hc2, z0, z1, v, ev, e2⟩ := pick c hc
    refine ⟨c2, T ++ [((T.length : Int), z)], some (.d (.int (T.length : Int))), some (.d (.int (T.length : Int))), hc2, hT.snoc (by omega) (by omega) z0 z1, by simp, ?_⟩
    obtain ⟨a1, a2, rfl⟩ := hc
    obtain ⟨a1, a2, rfl⟩ := hc1'
    obtain ⟨a1, a2, rfl⟩ := hc2
    simp? only [fB, trB, fbS, hdS, b__law_tree, ev, e2, hf, List.map_append, pD]
  · obtain ⟨z, c1, c2, hc1', hc2, z0, z1, v, ev, e2⟩ := pick c hc
    refine ⟨c2, T ++ [(0, z)], some (.d (.int (T.length : Int))), some (.d (.int 0)), hc2, hT.snoc (by omega) (by omega) z0 z1, by simp, ?_⟩
    obtain ⟨a1, a2, rfl⟩ := hc
    obtain ⟨a1, a2, rfl⟩ := hc1'
    obtain ⟨a1, a2, rfl⟩ := hc2
    simp? only [fB, trB, fbS, hdS, b__law_tree, ev, e2, hf, List.map_append, pD]
  · obtain ⟨r, c0, hc0', r0, r1, er⟩ := rollC (n+1) hc 3 (by omega) (by omega)
    obtain ⟨z, c1, c2, hc1', hc2, z0, z1, v, ev, e2⟩ := pick c0 hc0'
    obtain ⟨w, hw⟩ : ∃ w, w = (if (T.length : Int) - r > 0 then (T.length : Int) - r else 0) := ⟨_, rfl⟩
    refine ⟨c2, T ++ [(w, z)], some (.d (.int (T.length : Int))), some (.d (.int w)), hc2, hT.snoc (by rw [hw]; split <;> omega) (by rw [hw]; split <;> omega) z0 z1, by simp, ?_⟩
    obtain ⟨a1, a2, rfl⟩ := hc
    obtain ⟨a1, a2, rfl⟩ := hc0'
    obtain ⟨a1, a2, rfl⟩ := hc1'
    obtain ⟨a1, a2, rfl⟩ := hc2
    simp? only [fB, trB, fbS, hdS, b__law_tree, er, ← hw, ev, e2, hf, List.map_append, pD]
  · obtain ⟨r, c0, hc0', r0, r1, er⟩ := rollC (n+1) hc ((T.length : Int) + 1) (by omega) (by omega)
    obtain ⟨z, c1, c2, hc1', hc2, z0, z1, v, ev, e2⟩ := pick c0 hc0'
    refine ⟨c2, T ++ [(r, z)], some (.d (.int (T.length : Int))), some (.d (.int r)), hc2, hT.snoc (by omega) (by omega) z0 z1, by simp, ?_⟩
    obtain ⟨a1, a2, rfl⟩ := hc
    obtain ⟨a1, a2, rfl⟩ := hc0'
    obtain ⟨a1, a2, rfl⟩ := hc1'
    obtain ⟨a1, a2, rfl⟩ := hc2
    simp? only [fB, trB, fbS, hdS, b__law_tree, er, ev, e2, hf, List.map_append, pD]
theorem tr_loop (n : Nat) (cost w : Int) (hc0 : 0 ≤ cost) (hc1 : cost ≤ 1000000) (hw : w = 0 ∨ w = 1 ∨ w = 2 ∨ w = 3) (e1 : Option E) : ∀ (k : Nat) (T : List (Int × Int)), TI T → T.length + k ≤ 30 → ∀ (c : E), Cup c → ∀ (o5 o6 : Option E), ∃ c' T' q5 q6, Cup c' ∧ TI T' ∧ T'.length = T.length + k ∧ forL (fB (mkCalls prg (n+2) (runs prg (n+2))) (.nm 5) trB) ((rngA (T.length : Int) k).map .int) [some c, e1, some (.d (.int cost)), some (.d (.int w)), some (.l (T.map pD)), o5, o6] = .nx [some c', e1, some (.d (.int cost)), some (.d (.int w)), some (.l (T'.map pD)), q5, q6] := by
  intro k
  induction k with
  | zero => intro T hT hl c hc o5 o6; exact ⟨c, T, o5, o6, hc, hT, rfl, rfl⟩
  | succ k ih =>
    intro T hT hl c hc o5 o6
    obtain ⟨c1, T1, q5, q6, hc1', hT1, hl1, e⟩ := tr_turn n T hT (by omega) cost w hc0 hc1 hw c hc e1 o5 o6
    obtain ⟨c2, T2, r5, r6, hc2, hT2, hl2, e2⟩ := ih T1 hT1 (by omega) c1 hc1' q5 q6
    refine ⟨c2, T2, r5, r6, hc2, hT2, by omega, ?_⟩
    rw [rngA, List.map_cons, forL_nx e, ← e2]
    rw [show (T.length : Int) + 1 = (T1.length : Int) by omega]
theorem law_tree (n : Nat) (many : Nat) (hm : many ≤ 30) (cost : Int) (hc0 : 0 ≤ cost) (hc1 : cost ≤ 1000000) (c : E) (hc : Cup c) : ∃ c' T, Cup c' ∧ Tr T ∧ T.length = many ∧ (runs prg (n+3)).1 22 [c, .d (.int many), .d (.int cost)] = .ok (.d (tD T), [some c', none, none]) := by
  obtain ⟨w, c1, hc1', w0, w1, ew⟩ := rollC (n+1) hc 4 (by omega) (by omega)
  obtain ⟨c2, T, q5, q6, hc2, hT, hl, e⟩ := tr_loop n cost w hc0 hc1 (by omega) (some (.d (.int many))) many [] (fun i hi => by simp at hi) (by simpa using hm) c1 hc1' none none
  have r := rng1_map (b := (many : Int)) (small_of (by omega) (by omega)) (by omega)
  rw [show ((many : Nat) : Int).toNat = many by omega] at r
  simp only [List.length_nil, Nat.zero_add] at hl
  refine ⟨c2, T, hc2, hT.tr (by omega), hl, ?_⟩
  rw [run_s (n+2) 22 _ d__law_tree rfl]
  simp only [trB, fbS, hdS, b__law_tree, List.map_nil, List.length_nil, Int.natCast_zero] at e
  obtain ⟨a1, a2, rfl⟩ := hc
  obtain ⟨a1, a2, rfl⟩ := hc1'
  obtain ⟨a1, a2, rfl⟩ := hc2
  simp? only [d__law_tree, b__law_tree, ew, r, e, tD]
theorem right_any (n : Nat) {T : List (Int × Int)} (h : Tr T) : (runs prg (n+8)).1 30 [.d (tD T)] = .ok (.d (.bl true), [none]) := by
  cases T with
  | nil => exact right_empty n
  | cons a r => exact law_right n h (by simp)
end P72M
end
section
set_option linter.all false
set_option maxRecDepth 100000
set_option maxHeartbeats 4000000
namespace P72M
open P72
open PySem EV EU
open L2 (Key)
set_option autoImplicit false
def risT : List (Int × Int) := (idx 30).map fun x => (x, 999970 + x)
def falT : List (Int × Int) := (idx 30).map fun x => (x, 1000000 - x)
def falA : List D := List.replicate 30 (.tup [.int 1999971, .int 2])
def risA : List D := (idx 30).map fun x => .tup [.int (999970 + x), .int 1]
def nx3 : SR → Option (Option E × Option E × Nat)
  | .nx (a :: b :: r) => some (a, b, r.length)
  | _ => none
theorem nx3_nx {r : SR} {a b : Option E} {k : Nat} (h : nx3 r = some (a, b, k)) : ∃ ρ, ρ.length = k ∧ r = .nx (a :: b :: ρ) := by
  unfold nx3 at h
  split at h
  · injection h with h
    injection h with h1 h2
    injection h2 with h2 h3
    subst h1 h2
    exact ⟨_, h3, rfl⟩
  · cases h
theorem law_mid (n : Nat) (e0 o2 : Option E) (x y : Int) : nx3 (evSs (mkCalls prg (n+12) (runs prg (n+12))) (tk 9 (drp 2 b_law)) [e0, some (.l [.int x, .int y]), o2, none, none, none, none, none, none, none, none, none, none, none, none]) = some (e0, some (.l [.int x, .int y]), 13) := by kernel_rfl
theorem law_st (n : Nat) (e0 e1 e2 e3 e4 e5 e6 e7 e8 e9 e10 e11 e12 e13 e14 : Option E) : evSs (mkCalls prg (n+12) (runs prg (n+12))) (tk 2 (drp 11 b_law)) [e0, e1, e2, e3, e4, e5, e6, e7, e8, e9, e10, e11, e12, e13, e14] = .nx [e0, e1, e2, e3, e4, e5, e6, e7, e8, some (.d (tD risT)), some (.d (tD falT)), e11, some (.d (.tup [.int 1999971, .int 2])), e13, e14] := by kernel_rfl
theorem law_cmp (n : Nat) (e0 e1 e2 e3 e5 e6 e7 e8 e9 e10 e11 e13 e14 : Option E) : evSs (mkCalls prg (n+12) (runs prg (n+12))) (tk 1 (drp 14 b_law)) [e0, e1, e2, e3, some (.l [.tup risA, .tup falA]), e5, e6, e7, e8, e9, e10, e11, some (.d (.tup [.int 1999971, .int 2])), e13, e14] = .nx [e0, e1, e2, e3, some (.d (.lst [.tup risA, .tup falA])), e5, e6, e7, e8, e9, e10, e11, some (.d (.tup [.int 1999971, .int 2])), e13, e14] := by kernel_rfl
end P72M
end
section
set_option linter.all false
set_option maxRecDepth 100000
namespace P72M
open P72
open PySem EV EU
set_option autoImplicit false
theorem fal_lev (n : Nat) : (runs prg (n+12)).1 12 [.d (tD falT)] = .ok (.d (.tup falA), [none]) := by kernel_rfl
end P72M
end
section
set_option linter.all false
set_option maxRecDepth 100000
set_option maxHeartbeats 4000000
namespace P72M
open P72
open PySem EV EU
open L2 (Key)
set_option autoImplicit false
theorem ris_tr : Tr risT := TI.tr (by
  intro i hi
  have : ∀ j : Fin 30, 0 ≤ (risT.getD j.1 (0, 0)).1 ∧ (risT.getD j.1 (0, 0)).1 ≤ (j.1 : Int) ∧ 0 ≤ (risT.getD j.1 (0, 0)).2 ∧ (risT.getD j.1 (0, 0)).2 ≤ 1000000 := by decide +kernel
  exact this ⟨i, hi⟩) (by decide)
theorem ris_desc : ∀ j : Fin 30, desc risT (j.1 : Int) = rngA (j.1 : Int) (30 - j.1) := by decide +kernel
theorem ris_cs : ∀ j : Fin 30, cs risT (j.1 : Int) = 999970 + (j.1 : Int) := by decide +kernel
theorem ris_csI {x : Int} (h0 : 0 ≤ x) (h1 : x < 30) : cs risT x = 999970 + x := by
  have := ris_cs ⟨x.toNat, by omega⟩
  simpa only [show ((x.toNat : Nat) : Int) = x by omega] using this
section
variable {A : Int → Rat} (v : Lvl risT A)
/-- what is paid too much behind -/
def sfx (A : Int → Rat) (b : Nat) : Rat := ((rngA (b : Int) (30 - b)).map fun x => A x - csQ risT x).sum
theorem sumQ_sub {α : Type} (f g : α → Rat) (L : List α) : (L.map fun x => f x - g x).sum = (L.map f).sum - (L.map g).sum := by
  induction L with
  | nil => simp only [List.map_nil, List.sum_nil]; grind
  | cons a r ih => simp only [List.map_cons, List.sum_cons, ih]; grind
theorem sfx_step (A : Int → Rat) {b : Nat} (hb : b < 30) : sfx A b = (A b - csQ risT b) + sfx A (b + 1) := by
  unfold sfx
  obtain ⟨k, hk⟩ : ∃ k, 30 - b = k + 1 := ⟨29 - b, by omega⟩
  rw [hk, rngA, List.map_cons, List.sum_cons, show 30 - (b + 1) = k by omega]
  rfl
theorem sfx_desc (A : Int → Rat) {b : Nat} (hb : b < 30) : sfx A b = ((desc risT b).map A).sum - (cst risT b : Rat) := by
  unfold sfx
  rw [sumQ_sub, ← cst_Q, ris_desc ⟨b, hb⟩]
include v in
theorem sfx_nn {b : Nat} (hb : b < 30) : 0 ≤ sfx A b := by
  rw [sfx_desc A hb]
  have := v.fair.cov b (by omega) (by show (b : Int) < 30; omega)
  grind
theorem sfx_end (A : Int → Rat) : sfx A 30 = 0 := rfl
include v in
theorem sfx_0 : sfx A 0 = 0 := by
  have h1 := v.fair.sm
  rw [sfx_desc A (by omega)]
  have h2 : desc risT ((0 : Nat) : Int) = idx risT.length := ris_desc ⟨0, by omega⟩
  have h3 : cst risT ((0 : Nat) : Int) = tot risT := by unfold cst tot; rw [h2]
  rw [h2, h3, h1]
  grind
theorem sfx_run (A : Int → Rat) (hnn : ∀ b, b < 30 → 0 ≤ sfx A b) : ∀ (k m : Nat), m + k = 29 → 0 < sfx A m → ∃ j, m ≤ j ∧ j < 30 ∧ sfx A (j + 1) = 0 ∧ ∀ i, m ≤ i → i ≤ j → 0 < sfx A i := by
  intro k
  induction k with
  | zero =>
    intro m hm hp
    refine ⟨m, Nat.le_refl _, by omega, ?_, fun i h1 h2 => ?_⟩
    · rw [show m + 1 = 30 by omega]; exact sfx_end A
    · rw [show i = m by omega]; exact hp
  | succ k ih =>
    intro m hm hp
    by_cases h0 : sfx A (m + 1) = 0
    · exact ⟨m, Nat.le_refl _, by omega, h0, fun i h1 h2 => by rw [show i = m by omega]; exact hp⟩
    · have h1 := hnn (m + 1) (by omega)
      obtain ⟨j, j1, j2, j3, j4⟩ := ih (m + 1) (by omega) (by grind)
      refine ⟨j, by omega, j2, j3, fun i i1 i2 => ?_⟩
      by_cases e : i = m
      · rw [e]; exact hp
      · exact j4 i (by omega) i2
include v in
theorem sfx_zero : ∀ b : Nat, b ≤ 30 → sfx A b = 0 := by
  intro b
  induction b with
  | zero => intro _; exact sfx_0 v
  | succ b ih =>
    intro hb
    have hb0 := ih (by omega)
    by_cases he : b + 1 = 30
    · rw [he]; exact sfx_end A
    · have hnn := sfx_nn v (b := b + 1) (by omega)
      by_cases hz : sfx A (b + 1) = 0
      · exact hz
      · exfalso
        obtain ⟨j, j1, j2, j3, j4⟩ := sfx_run A (fun c hc => sfx_nn v hc) (29 - (b + 1)) (b + 1) (by omega) (by grind)
        have s1 := sfx_step A (b := b) (by omega)
        have s2 := sfx_step A (b := j) j2
        have p1 := j4 (b + 1) (Nat.le_refl _) j1
        have p2 := j4 j j1 (Nat.le_refl _)
        have c1 : csQ risT (b : Int) < csQ risT (j : Int) := by
          unfold csQ
          refine Rat.intCast_lt_intCast.2 ?_
          rw [ris_csI (by omega) (by omega), ris_csI (by omega) (by omega)]
          omega
        have hlt : A (b : Int) < A (j : Int) := by grind
        obtain ⟨t, t0, tn, hj, hb2, hs⟩ := v.held (j : Int) (b : Int) (by omega) (by show (j : Int) < 30; omega) (by omega) (by show (b : Int) < 30; omega) hlt
        have tn2 : t < 30 := tn
        have hd := ris_desc ⟨t.toNat, by omega⟩
        simp only [show ((t.toNat : Nat) : Int) = t by omega] at hd
        rw [hd, mem_rngA] at hj hb2
        have p3 := j4 t.toNat (by omega) (by omega)
        rw [sfx_desc A (by omega : t.toNat < 30), show ((t.toNat : Nat) : Int) = t by omega, hs] at p3
        grind
include v in
theorem ris_A : qs risT.length A = risA := by
  unfold qs risA
  apply List.map_congr_left
  intro x hx
  have hx2 := (mem_idx _ _).1 hx
  have hx3 : x < 30 := hx2.2
  have s1 := sfx_step A (b := x.toNat) (by omega)
  rw [sfx_zero v x.toNat (by omega), sfx_zero v (x.toNat + 1) (by omega), show ((x.toNat : Nat) : Int) = x by omega] at s1
  have e : A x = ((999970 + x : Int) : Rat) := by
    have h1 : csQ risT x = ((999970 + x : Int) : Rat) := by unfold csQ; rw [ris_csI hx2.1 hx3]
    rw [← h1]
    grind
  rw [e, qD_int]
end
theorem ris_lev (n : Nat) : (runs prg (n+4)).1 12 [.d (tD risT)] = .ok (.d (.tup risA), [none]) := by
  obtain ⟨A, v, e⟩ := levelled n ris_tr
  rw [ris_A v] at e
  exact e
def LI (e0 : Option E) (ρ : EV.Env) : Prop := ∃ (c : E) (o2 : Option E), Cup c ∧ ρ = [e0, some c, o2, none, none, none, none, none, none, none, none, none, none, none, none]
theorem law_turn (n : Nat) (e0 : Option E) (x : D) (ρ : EV.Env) (hI : LI e0 ρ) : ∃ ρ', fB (mkCalls prg (n+12) (runs prg (n+12))) (.nm 2) (fbS (hdS 1 b_law)) x ρ = .nx ρ' ∧ LI e0 ρ' := by
  obtain ⟨c, o2, hc, rfl⟩ := hI
  obtain ⟨w, c1, hc1, w0, w1, ew⟩ := rollC (n+11) hc 9 (by omega) (by omega)
  obtain ⟨c2, T, hc2, hT, hl, et⟩ := law_tree (n+9) w.toNat (by omega) 20 (by omega) (by omega) c1 hc1
  rw [show ((w.toNat : Nat) : Int) = w by omega] at et
  have er := right_any (n+4) hT
  refine ⟨[e0, some c2, some (.d x), none, none, none, none, none, none, none, none, none, none, none, none], ?_, c2, _, hc2, rfl⟩
  obtain ⟨a1, a2, rfl⟩ := hc
  obtain ⟨a1, a2, rfl⟩ := hc1
  obtain ⟨a1, a2, rfl⟩ := hc2
  simp only [tD] at *
  simp? only [fB, fbS, hdS, b_law, ew, et, er]
theorem law_at (n : Nat) (ns : List Int) (hl : ns.length ≤ 63) : ∃ os, (runs prg (n+13)).1 31 [.d (.scr ns)] = .ok (.d (.bl true), os) := by
  obtain ⟨c, hc, e0⟩ := cup (n+11) ns hl
  obtain ⟨ρ1, g1, c1, o2, hc1, rfl⟩ := forL_mem (f := fB (mkCalls prg (n+12) (runs prg (n+12))) (.nm 2) (fbS (hdS 1 b_law))) (LI (some (.d (.scr ns)))) (xs := (rngA 0 4).map .int) (ρ := [some (.d (.scr ns)), some c, none, none, none, none, none, none, none, none, none, none, none, none, none]) (fun x _ ρ h => law_turn n _ x ρ h) ⟨c, _, hc, rfl⟩
  obtain ⟨a1, a2, rfl⟩ := hc1
  obtain ⟨ρ2, hlen, g2⟩ := nx3_nx (law_mid n (some (.d (.scr ns))) o2 a1 a2)
  obtain ⟨x2, x3, x4, x5, x6, x7, x8, x9, x10, x11, x12, x13, x14, rfl⟩ : ∃ x2 x3 x4 x5 x6 x7 x8 x9 x10 x11 x12 x13 x14, ρ2 = [x2, x3, x4, x5, x6, x7, x8, x9, x10, x11, x12, x13, x14] := by
    match ρ2, hlen with
    | [a, b, c, d, e, f, g, h, i, j, k, l, m], _ => exact ⟨a, b, c, d, e, f, g, h, i, j, k, l, m, rfl⟩
  have g3 := law_st n (some (.d (.scr ns))) (some (.l [.int a1, .int a2])) x2 x3 x4 x5 x6 x7 x8 x9 x10 x11 x12 x13 x14
  have eR := ris_lev (n+8)
  have eF := fal_lev n
  have g4 := law_cmp n (some (.d (.scr ns))) (some (.l [.int a1, .int a2])) x2 x3 x5 x6 x7 x8 (some (.d (tD risT))) (some (.d (tD falT))) x11 x13 x14
  obtain ⟨w, c3, hc3, w0, w1, ew⟩ := rollC (n+11) ⟨a1, a2, rfl⟩ 3 (by omega) (by omega)
  obtain ⟨c4, T, hc4, hT, hTl, et⟩ := law_tree (n+9) 30 (by omega) 1000000 (by omega) (by omega) c3 hc3
  have er := right_any (n+4) hT
  have hb : b_law = .cons (hdS 0 b_law) (.cons (hdS 1 b_law) (drp 2 b_law)) := rfl
  have t1 := evSs_tk (mkCalls prg (n+12) (runs prg (n+12))) 9 (drp 2 b_law) [some (.d (.scr ns)), some (.l [.int a1, .int a2]), o2, none, none, none, none, none, none, none, none, none, none, none, none]
  rw [g2, SR.seq_nx] at t1
  have t2 := evSs_tk (mkCalls prg (n+12) (runs prg (n+12))) 2 (drp 11 b_law) [some (.d (.scr ns)), some (.l [.int a1, .int a2]), x2, x3, x4, x5, x6, x7, x8, x9, x10, x11, x12, x13, x14]
  rw [g3, SR.seq_nx] at t2
  have t3 := evSs_tk (mkCalls prg (n+12) (runs prg (n+12))) 1 (drp 14 b_law) [some (.d (.scr ns)), some (.l [.int a1, .int a2]), x2, x3, some (.l [.tup risA, .tup falA]), x5, x6, x7, x8, some (.d (tD risT)), some (.d (tD falT)), x11, some (.d (.tup [.int 1999971, .int 2])), x13, x14]
  rw [g4, SR.seq_nx] at t3
  rw [show drp 9 (drp 2 b_law) = drp 11 b_law from rfl] at t1
  rw [show drp 2 (drp 11 b_law) = .cons (hdS 13 b_law) (drp 14 b_law) from rfl] at t2
  rw [show drp 1 (drp 14 b_law) = .cons (hdS 15 b_law) .nil from rfl] at t3
  have r4 := rng1_map (b := 4) (small_of (by omega) (by omega)) (by decide)
  have p6 : pPow [.int 10, .int 6] = some (.d (.int 1000000)) := by kernel_rfl
  rw [run_s (n+12) 31 _ d_law rfl]
  simp only [d_law]
  rw [hb]
  obtain ⟨r2, hr2⟩ : ∃ r, r = drp 2 b_law := ⟨_, rfl⟩
  obtain ⟨r14, hr14⟩ : ∃ r, r = drp 14 b_law := ⟨_, rfl⟩
  obtain ⟨r11, hr11⟩ : ∃ r, r = drp 11 b_law := ⟨_, rfl⟩
  rw [← hr2] at t1 ⊢
  rw [← hr11] at t1 t2
  rw [← hr14] at t2 t3
  obtain ⟨a3, a4, rfl⟩ := hc
  obtain ⟨a5, a6, rfl⟩ := hc3
  obtain ⟨a7, a8, rfl⟩ := hc4
  simp only [fbS, hdS, b_law] at g1
  simp only [Int.reduceToNat] at r4
  simp only [Int.cast_ofNat_Int] at et
  refine ⟨[none], ?_⟩
  by_cases hw : 0 < w
  · simp_all? only [pAdd, pSub, pMul, pFdiv, pMod, pNeg, pEq, pNe, pLt, pLe, pGt, pGe, pIsin, pNotin, pIsnone, pNotnone, pIsb, pIsnotb, pIx, pSlc, pRev, pLen, pAbs, pInt, pList, pTuple, pSum, pMax2, pMin2, pMaxL, pMinL, pMinT, pAny, pAll, pSorted, pGcd, pDictK, pIsinst, pLrange, pTrange, pTup, pLst, pNewK, pNewT, inst, setE, scalD, scEq, hdS, b_law, e0, r4, g1, t1, t2, eR, eF, t3, ew, hw]
  · simp_all? only [pAdd, pSub, pMul, pFdiv, pMod, pNeg, pEq, pNe, pLt, pLe, pGt, pGe, pIsin, pNotin, pIsnone, pNotnone, pIsb, pIsnotb, pIx, pSlc, pRev, pLen, pAbs, pInt, pList, pTuple, pSum, pMax2, pMin2, pMaxL, pMinL, pMinT, pAny, pAll, pSorted, pGcd, pDictK, pIsinst, pLrange, pTrange, pTup, pLst, pNewK, pNewT, inst, setE, scalD, scEq, hdS, b_law, e0, r4, g1, t1, t2, eR, eF, t3, ew, hw, p6, et, er]
theorem law_ok (ns : List Int) (hl : ns.length ≤ 63) : ∃ os, (runs prg 60).1 31 [.d (.scr ns)] = .ok (.d (.bl true), os) := law_at 47 ns hl
end P72M
end
section
set_option linter.all false
set_option maxRecDepth 100000
set_option maxHeartbeats 0
namespace P72
open PySem PySem.W L2 PySem.Spec PyProof.Rows RZ LamX EV
def top (i : Nat) : Stmt := PySem.Challenge.pw_currentkept_k72_whole_levelled_amounts.main.body.getD i (.Pass ⟨0, 0, 0, 0⟩)
/-- the name of a def's lambdas -/
def qL (x : Str) : Str := (x ++ ".<locals>.") ++ "<lambda>"
/-- the names -/
structure Gx (L : Lw) : Prop where
  b_abs : L.mg "abs" = none
  b_all : L.mg "all" = none
  b_bool : L.mg "bool" = none
  b_enumerate : L.mg "enumerate" = none
  b_int : L.mg "int" = none
  b_isinstance : L.mg "isinstance" = none
  b_len : L.mg "len" = none
  b_list : L.mg "list" = none
  b_max : L.mg "max" = none
  b_range : L.mg "range" = none
  b_sorted : L.mg "sorted" = none
  b_str : L.mg "str" = none
  b_sum : L.mg "sum" = none
  b_tuple : L.mg "tuple" = none
  b_zip : L.mg "zip" = none
  g_gcd : L.mg "gcd" = some (.builtin "math.gcd")
  f_is_whole : L.mg "is_whole" = some (.ref (L.fa 0))
  f_is_tuple_of : L.mg "is_tuple_of" = some (.ref (L.fa 1))
  f_in_lowest : L.mg "in_lowest" = some (.ref (L.fa 2))
  f_sum_of : L.mg "sum_of" = some (.ref (L.fa 3))
  f_compared : L.mg "compared" = some (.ref (L.fa 4))
  f_is_tree : L.mg "is_tree" = some (.ref (L.fa 5))
  f_need_tree : L.mg "need_tree" = some (.ref (L.fa 6))
  f_branches : L.mg "branches" = some (.ref (L.fa 7))
  f_costs_in : L.mg "costs_in" = some (.ref (L.fa 8))
  f_even_amounts : L.mg "even_amounts" = some (.ref (L.fa 9))
  f_greatest : L.mg "greatest" = some (.ref (L.fa 10))
  f_least_peak : L.mg "least_peak" = some (.ref (L.fa 11))
  f_levelled : L.mg "levelled" = some (.ref (L.fa 12))
  f__law_cup : L.mg "_law_cup" = some (.ref (L.fa 13))
  f__law_roll : L.mg "_law_roll" = some (.ref (L.fa 14))
  f__law_some : L.mg "_law_some" = some (.ref (L.fa 15))
  f__law_sort : L.mg "_law_sort" = some (.ref (L.fa 16))
  f__law_like : L.mg "_law_like" = some (.ref (L.fa 17))
  f__law_low : L.mg "_law_low" = some (.ref (L.fa 18))
  f__law_add : L.mg "_law_add" = some (.ref (L.fa 19))
  f__law_order : L.mg "_law_order" = some (.ref (L.fa 20))
  f__law_is_pair : L.mg "_law_is_pair" = some (.ref (L.fa 21))
  f__law_tree : L.mg "_law_tree" = some (.ref (L.fa 22))
  f__law_way : L.mg "_law_way" = some (.ref (L.fa 23))
  f__law_branch : L.mg "_law_branch" = some (.ref (L.fa 24))
  f__law_cost : L.mg "_law_cost" = some (.ref (L.fa 25))
  f__law_error : L.mg "_law_error" = some (.ref (L.fa 26))
  f__law_sum : L.mg "_law_sum" = some (.ref (L.fa 27))
  f__law_less : L.mg "_law_less" = some (.ref (L.fa 28))
  f__law_are_fair : L.mg "_law_are_fair" = some (.ref (L.fa 29))
  f__law_right : L.mg "_law_right" = some (.ref (L.fa 30))
  f_law : L.mg "law" = some (.ref (L.fa 31))
  i_PLACES : ∃ t, L.mg "PLACES" = some (.int (30) t)
  i_COST : ∃ t, L.mg "COST" = some (.int (1000000) t)
  c_PowerError : L.mg "PowerError" = some (.ref (L.ca 0))
  c_InvalidTree : L.mg "InvalidTree" = some (.ref (L.ca 1))
  e_InvalidTree : PySem.W.excIn L.K (L.ca 1) He.veBase "ValueError.__new__" = true
  k_InvalidTree : PySem.W.keepIn L.K (.ref (L.ca 1)) = true
  s_InvalidTree : PySem.W.subIn L.K (.ref (L.ca 1)) (.type "BaseException") = some true
  t_InvalidTree : PySem.W.typeIn L.K (.ref (L.ca 1)) = some (.type "type")
  xc : ∀ q, q < 2 → ExcC L.K (L.ca q)
  ki : ∀ q j, q < 2 → j < 2 → PySem.W.kitOne L.K (.ref (L.ca q)) (.ref (L.ca j)) = some (isB q j)
  ex : ∀ q, q < 2 → PySem.W.exmOne L.K (.ref (L.ca q)) (.ref (L.ca 0)) = some true
  tb_law : TabB L.base L.mg (He.cT L.K ("law", none)).1 (He.cT L.K ("law", none)).2
  m_law : ((He.cT L.K ("law", none)).2, qL "law") ∈ L.T
  u_law : ∀ p ∈ L.T, p.1 = (He.cT L.K ("law", none)).2 → p.2 = qL "law"
  d__law_error : ∃ fd, FunD L.K "_law_error" "_law_error" (defArgs (top 36)) (defBody (top 36)) (defScope (top 36)) [] [] (L.fa 26) fd
variable {L : Lw} {c : Calls} {n : Nat} {f : Addr} {cdv : Value} {A : Around} {outer : List PySem.Env} {s : Shared} {H : Hp} {E' : XK}
theorem sc__law_error : FnScope ["call", "e", "some", "word", "good"] ["call"] (defScope (top 36)) := ⟨rfl, rfl, rfl, by decide +kernel, rfl, by decide +kernel, by decide +kernel⟩
theorem nd__law_error : (["call", "e", "some", "word", "good"] : List Str).Nodup := sc__law_error.nd
theorem su__law_error (G : Gx L) {A : Around} {stack : List PySem.Env} {s : Shared} {H : Hp} {g : Addr} {cdg : Value} {ad : Addr} {oe : Obj} {q : Nat} {pn : List (Addr × Obj)} (hu : A.units + 100 < cLine) (hq : q < 2) (hz : L2N.Zn (.ref (L.ca q)) none oe) (hf : ∃ vs, oe.data = .fields vs) : PSts (kS ((cxOf C8.CX0 L.P L.w L.K L.mg L.base ["call", "e", "some", "word", "good"] "_law_error" (defScope (top 36)) g cdg A stack s H C8.E0).nox.suite ad ((ad, oe) :: pn)) L.T L.ca ad) [2, 3, 4] (suiteOf (defBody (top 36))) (S__law_error q) :=
 have hu2 : ((cxOf C8.CX0 L.P L.w L.K L.mg L.base ["call", "e", "some", "word", "good"] "_law_error" (defScope (top 36)) g cdg A stack s H C8.E0).nox.suite ad ((ad, oe) :: pn)).A.units + 66 < cLine := by
  show A.units + 3 + 66 < cLine
  omega
 (psts_cons (pst_asgN nd__law_error rfl (px_lst (.x (px_tup (.x px_str rfl (.x (px_pr (ar_isE (G.xc q hq) hz hf (G.ki q 1 hq (by decide)) rfl G.b_isinstance rfl G.c_InvalidTree (pv 1)) prim_isE) rfl .nil))) rfl .nil)))
 (psts_cons (pst_ret (px_bin op_addAll prim_add (.x (px_pr (ar_join (.x (px_lcQ [("word", 3), ("good", 4)] (hotC_of hz hf) rfl rfl nd__law_error (psq_slt (pv 2)) (by first | rfl | with_unfolding_all rfl | kernel_rfl) tgOk_tpT (by decide) (fun s1 H1 C1 cl1 fp1 hB => pg_tupH (fun pins σ H2 s2 I => hB.at I) (pgs_cons (pgN 3 nd__law_error) (pgs_cons (pgN 4 nd__law_error) pgs_nil))) (fun s1 H1 C1 cl1 fp1 => pts1 (ptx_val (px_var (pv 4)))) (fun s1 H1 C1 cl1 fp1 => px_var (pv 3))) rfl .nil)) prim_join) rfl (.x px_str rfl .nil)))) psts_nil))
theorem tr0__law_error {c : Calls} (hh : c.hnd = prg.hnd) : ∀ d, c.hnd 26 0 = some d → d = .str "" := by
  rw [hh]
  intro d h
  cases h
  rfl
theorem tr1__law_error (G : Gx L) {c : Calls} (hh : c.hnd = prg.hnd) : ∀ q d, c.hnd 26 (q + 1) = some d → q < 2 ∧ PySem.W.exmOne L.K (.ref (L.ca q)) (.ref (L.ca 0)) = some true ∧ ∃ w ρ', d = .str w ∧ evSs c0 (S__law_error q) (put (List.replicate 5 none) 1 (some (.d (.fn 0)))) = .rt (.d (.str w)) ρ' := by
  rw [hh]
  intro q d h
  have hq : q < 2 := by
    by_cases hq : q < 2
    · exact hq
    · exfalso
      obtain ⟨r, rfl⟩ : ∃ r, q = r + 2 := ⟨q - 2, by omega⟩
      cases h
  refine ⟨hq, G.ex q hq, ?_⟩
  match q, hq, h with
  | 0, _, h => cases h; exact let ⟨ρ1, e1⟩ := endsS_ok (w := " error") (by decide +kernel); ⟨_, ρ1, rfl, e1⟩
  | 1, _, h => cases h; exact let ⟨ρ1, e1⟩ := endsS_ok (w := "tree error") (by decide +kernel); ⟨_, ρ1, rfl, e1⟩
theorem t_is_whole (G : Gx L) (ok : SOk (L.kx c ["value", "low", "high"] "is_whole" (defScope (top 5)) f cdv A outer s H E') n) : PSts (L.kx c ["value", "low", "high"] "is_whole" (defScope (top 5)) f cdv A outer s H E') [0, 1, 2] (defBody (top 5)) b_is_whole :=
 have ND := ok.nd
 (psts_cons (pst_ret (px_and (px_pr (ar_isi (t := .int) rfl G.b_isinstance rfl G.b_int boot_int (.s (pv 0) rfl .nil)) prim_isinst) (px_and (px_not (px_pr (ar_isi (t := .bool) rfl G.b_isinstance rfl G.b_bool boot_bool (.s (pv 0) rfl .nil)) prim_isinst)) (px_and1 (px_chn op_le prim_le op_le prim_le (px_var (pv 1)) (px_var (pv 0)) (px_var (pv 2)))))))
 psts_nil)
theorem t_is_tuple_of (G : Gx L) (ok : SOk (L.kx c ["value", "low", "high"] "is_tuple_of" (defScope (top 6)) f cdv A outer s H E') n) : PSts (L.kx c ["value", "low", "high"] "is_tuple_of" (defScope (top 6)) f cdv A outer s H E') [0, 1, 2] (defBody (top 6)) b_is_tuple_of :=
 have ND := ok.nd
 (psts_cons (pst_ret (px_and (px_pr (ar_isi (t := .tuple) rfl G.b_isinstance rfl G.b_tuple boot_tuple (.s (pv 0) rfl .nil)) prim_isinst) (px_and1 (px_chn op_le prim_le op_le prim_le (px_var (pv 1)) (px_pr (ar_b (call_len_seq) rfl G.b_len boot_len (.s (pv 0) rfl .nil)) prim_len) (px_var (pv 2))))))
 psts_nil)
theorem t_in_lowest (G : Gx L) (ok : SOk (L.kx c ["top", "bottom", "shared"] "in_lowest" (defScope (top 8)) f cdv A outer s H E') n) : PSts (L.kx c ["top", "bottom", "shared"] "in_lowest" (defScope (top 8)) f cdv A outer s H E') [0, 1, 2] (defBody (top 8)) b_in_lowest :=
 have ND := ok.nd
 (psts_cons (pst_asgA ok rfl (px_pr (ar_bf cr_gcd rfl G.g_gcd (.s (pv 0) rfl (.s (pv 1) rfl .nil))) prim_gcd))
 (psts_cons (pst_if (ptx_cmp op_lt prim_lt (.s (pv 1) rfl (.x px_int rfl .nil)))
 (psts_cons (pst_asgA ok rfl (px_pr (ar_un un_neg (.s (pv 2) rfl .nil)) prim_neg))
 psts_nil)
 psts_nil)
 (psts_cons (pst_ret (px_tup (.x (px_bin op_fdivW prim_fdiv (.s (pv 0) rfl (.s (pv 2) rfl .nil))) rfl (.x (px_bin op_fdivW prim_fdiv (.s (pv 1) rfl (.s (pv 2) rfl .nil))) rfl .nil))))
 psts_nil)))
theorem t_sum_of (G : Gx L) (ok : SOk (L.kx c ["one", "other"] "sum_of" (defScope (top 9)) f cdv A outer s H E') n) : PSts (L.kx c ["one", "other"] "sum_of" (defScope (top 9)) f cdv A outer s H E') [0, 1] (defBody (top 9)) b_sum_of :=
 have ND := ok.nd
 (psts_cons (pst_ret (px_call (f := 2) ok.toKOk rfl G.f_in_lowest (.x (px_bin op_addAll prim_add (.x (px_bin op_mulAll prim_mul (.x (px_pr (ar_ix (ix_all ok.hu) (.s (pv 0) rfl (.x px_int rfl .nil)) (fun _ _ => rfl)) prim_ix) rfl (.x (px_pr (ar_ix (ix_all ok.hu) (.s (pv 1) rfl (.x px_int rfl .nil)) (fun _ _ => rfl)) prim_ix) rfl .nil))) rfl (.x (px_bin op_mulAll prim_mul (.x (px_pr (ar_ix (ix_all ok.hu) (.s (pv 1) rfl (.x px_int rfl .nil)) (fun _ _ => rfl)) prim_ix) rfl (.x (px_pr (ar_ix (ix_all ok.hu) (.s (pv 0) rfl (.x px_int rfl .nil)) (fun _ _ => rfl)) prim_ix) rfl .nil))) rfl .nil))) rfl (.x (px_bin op_mulAll prim_mul (.x (px_pr (ar_ix (ix_all ok.hu) (.s (pv 0) rfl (.x px_int rfl .nil)) (fun _ _ => rfl)) prim_ix) rfl (.x (px_pr (ar_ix (ix_all ok.hu) (.s (pv 1) rfl (.x px_int rfl .nil)) (fun _ _ => rfl)) prim_ix) rfl .nil))) rfl .nil))))
 psts_nil)
theorem t_compared (G : Gx L) (ok : SOk (L.kx c ["one", "other"] "compared" (defScope (top 10)) f cdv A outer s H E') n) : PSts (L.kx c ["one", "other"] "compared" (defScope (top 10)) f cdv A outer s H E') [0, 1] (defBody (top 10)) b_compared :=
 have ND := ok.nd
 (psts_cons (pst_ret (px_bin op_sub prim_sub (.x (px_bin op_mulAll prim_mul (.x (px_pr (ar_ix (ix_all ok.hu) (.s (pv 0) rfl (.x px_int rfl .nil)) (fun _ _ => rfl)) prim_ix) rfl (.x (px_pr (ar_ix (ix_all ok.hu) (.s (pv 1) rfl (.x px_int rfl .nil)) (fun _ _ => rfl)) prim_ix) rfl .nil))) rfl (.x (px_bin op_mulAll prim_mul (.x (px_pr (ar_ix (ix_all ok.hu) (.s (pv 1) rfl (.x px_int rfl .nil)) (fun _ _ => rfl)) prim_ix) rfl (.x (px_pr (ar_ix (ix_all ok.hu) (.s (pv 0) rfl (.x px_int rfl .nil)) (fun _ _ => rfl)) prim_ix) rfl .nil))) rfl .nil))))
 psts_nil)
theorem t_is_tree (G : Gx L) (ok : SOk (L.kx c ["value", "pair", "at"] "is_tree" (defScope (top 14)) f cdv A outer s H E') n) : PSts (L.kx c ["value", "pair", "at"] "is_tree" (defScope (top 14)) f cdv A outer s H E') [0, 1, 2] (defBody (top 14)) b_is_tree :=
 have ND := ok.nd
 (psts_cons (pst_if (ptx_w (pwx_or (ptx_not (ptx_val (px_call (f := 1) ok.toKOk rfl G.f_is_tuple_of (.x (px_var (pv 0)) rfl (.x px_int rfl (.x (px_glb rfl G.i_PLACES) rfl .nil)))))) (pwx_or1 (ptx_not (ptx_val (px_pr (ar_b (cr_all ok.calm) rfl G.b_all boot_all (.x (px_lc [("pair", 1)] ok.toKOk ND (psx_x (px_var (pv 0))) (by first | rfl | with_unfolding_all rfl | kernel_rfl) tgOk_nm (by decide) (fun s2 H2 C2 cl2 fp2 => (pgN 1 ND)) (fun s2 H2 C2 cl2 fp2 => pts_none) (fun s2 H2 C2 cl2 fp2 => (px_call (f := 1) (ok.toKOk.blk s2 H2 _ C2 cl2 fp2) rfl G.f_is_tuple_of (.x (px_var (pv 1)) rfl (.x px_int rfl (.x px_int rfl .nil)))))) rfl .nil)) prim_all))))))
 (psts_cons (pst_ret px_bl)
 psts_nil)
 psts_nil)
 (psts_cons (pst_ret (px_pr (ar_b (cr_all ok.calm) rfl G.b_all boot_all (.x (px_lc [("at", 2), ("pair", 1)] ok.toKOk ND (psx_en rfl G.b_enumerate (px_var (pv 0))) (by first | rfl | with_unfolding_all rfl | kernel_rfl) tgOk_tp (by decide) (fun s1 H1 C1 cl1 fp1 => (pg_tp (ok.toKOk.blk s1 H1 _ C1 cl1 fp1).calm (pgs_cons (pgN 2 ND) (pgs_cons (pgN 1 ND) pgs_nil)))) (fun s1 H1 C1 cl1 fp1 => pts_none) (fun s1 H1 C1 cl1 fp1 => (px_and (px_call (f := 0) (ok.toKOk.blk s1 H1 _ C1 cl1 fp1) rfl G.f_is_whole (.x (px_pr (ar_ix (ix_all (ok.toKOk.blk s1 H1 _ C1 cl1 fp1).hu) (.s (pv 1) rfl (.x px_int rfl .nil)) (fun _ _ => rfl)) prim_ix) rfl (.x px_int rfl (.x (px_var (pv 2)) rfl .nil)))) (px_and1 (px_call (f := 0) (ok.toKOk.blk s1 H1 _ C1 cl1 fp1) rfl G.f_is_whole (.x (px_pr (ar_ix (ix_all (ok.toKOk.blk s1 H1 _ C1 cl1 fp1).hu) (.s (pv 1) rfl (.x px_int rfl .nil)) (fun _ _ => rfl)) prim_ix) rfl (.x px_int rfl (.x (px_glb rfl G.i_COST) rfl .nil)))))))) rfl .nil)) prim_all))
 psts_nil))
theorem t_need_tree (G : Gx L) (ok : SOk (L.kx c ["value"] "need_tree" (defScope (top 15)) f cdv A outer s H E') n) : PSts (L.kx c ["value"] "need_tree" (defScope (top 15)) f cdv A outer s H E') [0] (defBody (top 15)) b_need_tree :=
 have ND := ok.nd
 (psts_cons (pst_if (ptx_not (ptx_val (px_call (f := 5) ok.toKOk rfl G.f_is_tree (.x (px_var (pv 0)) rfl .nil))))
 (psts_cons (pst_raise (c := 1) ok F.excBase_ValueError G.e_InvalidTree G.c_InvalidTree G.k_InvalidTree (raises_own G.s_InvalidTree G.t_InvalidTree) rfl)
 psts_nil)
 psts_nil)
 psts_nil)
theorem t_branches (G : Gx L) (ok : SOk (L.kx c ["tree", "found", "at", "before", "branch"] "branches" (defScope (top 16)) f cdv A outer s H E') n) : PSts (L.kx c ["tree", "found", "at", "before", "branch"] "branches" (defScope (top 16)) f cdv A outer s H E') [0, 1, 2, 3, 4] (defBody (top 16)) b_branches :=
 have ND := ok.nd
 (psts_cons (pst_asgLc [("at", 2)] ok rfl rfl (psx_rng1 rfl G.b_range (.x (px_pr (ar_b (call_len_seq) rfl G.b_len boot_len (.s (pv 0) rfl .nil)) prim_len) rfl .nil)) (by first | rfl | with_unfolding_all rfl | kernel_rfl) tgOk_nm (by decide) (fun s4 H4 C4 cl4 fp4 => (pgN 2 ND)) (fun s4 H4 C4 cl4 fp4 => pts_none) (fun s4 H4 C4 cl4 fp4 => (px_lst (.x (px_var (pv 2)) rfl .nil))) (sw_true rfl rfl rfl rfl))
 (psts_cons (pst_for [2, 3] ok (psx_rng3a rfl G.b_range (.x (px_bin op_sub prim_sub (.x (px_pr (ar_b (call_len_seq) rfl G.b_len boot_len (.s (pv 0) rfl .nil)) prim_len) rfl (.x px_int rfl .nil))) rfl (.x (px_pr (ar_un un_neg (.x px_int rfl .nil)) prim_neg) rfl (.x (px_pr (ar_un un_neg (.x px_int rfl .nil)) prim_neg) rfl .nil)))) (pgN 2 ND) tgOk_nm
 (psts_cons (pst_asgA ok rfl (px_pr (ar_ix (ix_all ok.hu) (.x (px_pr (ar_ix (ix_all ok.hu) (.s (pv 0) rfl (.s (pv 2) rfl .nil)) (fun _ _ => rfl)) prim_ix) rfl (.x px_int rfl .nil)) (fun _ _ => rfl)) prim_ix))
 (psts_cons (pst_if (ptx_cmp op_gt prim_gt (.s (pv 3) rfl (.x px_int rfl .nil)))
 (psts_cons (pst_setix ok (pv 1) (px_bin op_sub prim_sub (.s (pv 3) rfl (.x px_int rfl .nil))) (px_bin op_addAll prim_add (.x (px_pr (ar_ix (ix_all ok.hu) (.s (pv 1) rfl (.x (px_bin op_sub prim_sub (.s (pv 3) rfl (.x px_int rfl .nil))) rfl .nil)) (fun _ _ => rfl)) prim_ix) rfl (.x (px_pr (ar_ix (ix_all ok.hu) (.s (pv 1) rfl (.s (pv 2) rfl .nil)) (fun _ _ => rfl)) prim_ix) rfl .nil))))
 psts_nil)
 psts_nil)
 psts_nil)))
 (psts_cons (pst_ret (px_lc [("branch", 4)] ok.toKOk ND (psx_slt (pv 1)) (by first | rfl | with_unfolding_all rfl | kernel_rfl) tgOk_nm (by decide) (fun s3 H3 C3 cl3 fp3 => (pgN 4 ND)) (fun s3 H3 C3 cl3 fp3 => pts_none) (fun s3 H3 C3 cl3 fp3 => (px_pr (ar_b cr_sortedI rfl G.b_sorted boot_sorted (.s (pv 4) rfl .nil)) prim_sorted))))
 psts_nil)))
theorem t_costs_in (G : Gx L) (ok : SOk (L.kx c ["tree", "at", "branch"] "costs_in" (defScope (top 17)) f cdv A outer s H E') n) : PSts (L.kx c ["tree", "at", "branch"] "costs_in" (defScope (top 17)) f cdv A outer s H E') [0, 1, 2] (defBody (top 17)) b_costs_in :=
 have ND := ok.nd
 (psts_cons (pst_ret (px_lc [("branch", 2)] ok.toKOk ND (psx_x (px_call (f := 7) ok.toKOk rfl G.f_branches (.x (px_var (pv 0)) rfl .nil))) (by first | rfl | with_unfolding_all rfl | kernel_rfl) tgOk_nm (by decide) (fun s5 H5 C5 cl5 fp5 => (pgN 2 ND)) (fun s5 H5 C5 cl5 fp5 => pts_none) (fun s5 H5 C5 cl5 fp5 => (px_pr (ar_b (cr_sum (ok.toKOk.blk s5 H5 _ C5 cl5 fp5).calm) rfl G.b_sum boot_sum (.x (px_lc [("at", 1)] (ok.toKOk.blk s5 H5 _ C5 cl5 fp5) ND (psx_slt (pv 2)) (by first | rfl | with_unfolding_all rfl | kernel_rfl) tgOk_nm (by decide) (fun s6 H6 C6 cl6 fp6 => (pgN 1 ND)) (fun s6 H6 C6 cl6 fp6 => pts_none) (fun s6 H6 C6 cl6 fp6 => (px_pr (ar_ix (ix_all ((ok.toKOk.blk s5 H5 _ C5 cl5 fp5).blk s6 H6 _ C6 cl6 fp6).hu) (.x (px_pr (ar_ix (ix_all ((ok.toKOk.blk s5 H5 _ C5 cl5 fp5).blk s6 H6 _ C6 cl6 fp6).hu) (.s (pv 0) rfl (.s (pv 1) rfl .nil)) (fun _ _ => rfl)) prim_ix) rfl (.x px_int rfl .nil)) (fun _ _ => rfl)) prim_ix))) rfl .nil)) prim_sum))))
 psts_nil)
theorem t_even_amounts (G : Gx L) (ok : SOk (L.kx c ["tree", "found", "line", "branch", "at"] "even_amounts" (defScope (top 18)) f cdv A outer s H E') n) : PSts (L.kx c ["tree", "found", "line", "branch", "at"] "even_amounts" (defScope (top 18)) f cdv A outer s H E') [0, 1, 2, 3, 4] (defBody (top 18)) b_even_amounts :=
 have ND := ok.nd
 (psts_cons (pst_expr (px_call (f := 6) ok.toKOk rfl G.f_need_tree (.x (px_var (pv 0)) rfl .nil)))
 (psts_cons (pst_asgA ok rfl (px_bin op_mulAll prim_mul (.x (px_lst (.x (px_tup (.x px_int rfl (.x px_int rfl .nil))) rfl .nil)) rfl (.x (px_pr (ar_b (call_len_seq) rfl G.b_len boot_len (.s (pv 0) rfl .nil)) prim_len) rfl .nil))))
 (psts_cons (pst_for [2, 3, 4] ok (psx_en rfl G.b_enumerate (px_call (f := 7) ok.toKOk rfl G.f_branches (.x (px_var (pv 0)) rfl .nil))) (pg_tp ok.calm (pgs_cons (pgN 2 ND) (pgs_cons (pgN 3 ND) pgs_nil))) tgOk_tp
 (psts_cons (pst_for [4] ok (psx_x (px_var (pv 3))) (pgN 4 ND) tgOk_nm
 (psts_cons (pst_setix ok (pv 1) (px_var (pv 4)) (px_call (f := 3) ok.toKOk rfl G.f_sum_of (.x (px_pr (ar_ix (ix_all ok.hu) (.s (pv 1) rfl (.s (pv 4) rfl .nil)) (fun _ _ => rfl)) prim_ix) rfl (.x (px_call (f := 2) ok.toKOk rfl G.f_in_lowest (.x (px_pr (ar_ix (ix_all ok.hu) (.x (px_pr (ar_ix (ix_all ok.hu) (.s (pv 0) rfl (.s (pv 2) rfl .nil)) (fun _ _ => rfl)) prim_ix) rfl (.x px_int rfl .nil)) (fun _ _ => rfl)) prim_ix) rfl (.x (px_pr (ar_b (call_len_seq) rfl G.b_len boot_len (.s (pv 3) rfl .nil)) prim_len) rfl .nil))) rfl .nil))))
 psts_nil))
 psts_nil))
 (psts_cons (pst_ret (px_pr (ar_ty call_tuple_of rfl G.b_tuple boot_tuple (.s (pv 1) rfl .nil)) prim_tuple))
 psts_nil))))
theorem t_greatest (G : Gx L) (ok : SOk (L.kx c ["pairs", "found", "pair"] "greatest" (defScope (top 19)) f cdv A outer s H E') n) : PSts (L.kx c ["pairs", "found", "pair"] "greatest" (defScope (top 19)) f cdv A outer s H E') [0, 1, 2] (defBody (top 19)) b_greatest :=
 have ND := ok.nd
 (psts_cons (pst_asgA ok rfl (px_pr (ar_ix (ix_all ok.hu) (.s (pv 0) rfl (.x px_int rfl .nil)) (fun _ _ => rfl)) prim_ix))
 (psts_cons (pst_for [1, 2] ok (psx_x (px_var (pv 0))) (pgN 2 ND) tgOk_nm
 (psts_cons (pst_if (ptx_cmp op_gt prim_gt (.x (px_call (f := 4) ok.toKOk rfl G.f_compared (.x (px_var (pv 2)) rfl (.x (px_var (pv 1)) rfl .nil))) rfl (.x px_int rfl .nil)))
 (psts_cons (pst_asgA ok rfl (px_var (pv 2)))
 psts_nil)
 psts_nil)
 psts_nil))
 (psts_cons (pst_ret (px_mv (pv 1)))
 psts_nil)))
theorem t_least_peak (G : Gx L) (ok : SOk (L.kx c ["tree", "cost", "branch"] "least_peak" (defScope (top 20)) f cdv A outer s H E') n) : PSts (L.kx c ["tree", "cost", "branch"] "least_peak" (defScope (top 20)) f cdv A outer s H E') [0, 1, 2] (defBody (top 20)) b_least_peak :=
 have ND := ok.nd
 (psts_cons (pst_expr (px_call (f := 6) ok.toKOk rfl G.f_need_tree (.x (px_var (pv 0)) rfl .nil)))
 (psts_cons (pst_if (ptx_cmp (op_eqAll ok.hu) prim_eq (.s (pv 0) rfl (.x (px_tup .nil) rfl .nil)))
 (psts_cons (pst_ret px_non)
 psts_nil)
 psts_nil)
 (psts_cons (pst_ret (px_call (f := 10) ok.toKOk rfl G.f_greatest (.x (px_lc [("cost", 1), ("branch", 2)] ok.toKOk ND (psx_zip rfl G.b_zip (.x (px_call (f := 8) ok.toKOk rfl G.f_costs_in (.x (px_var (pv 0)) rfl .nil)) rfl (.x (px_call (f := 7) ok.toKOk rfl G.f_branches (.x (px_var (pv 0)) rfl .nil)) rfl .nil))) (by first | rfl | with_unfolding_all rfl | kernel_rfl) tgOk_tp (by decide) (fun s7 H7 C7 cl7 fp7 => (pg_tp (ok.toKOk.blk s7 H7 _ C7 cl7 fp7).calm (pgs_cons (pgN 1 ND) (pgs_cons (pgN 2 ND) pgs_nil)))) (fun s7 H7 C7 cl7 fp7 => pts_none) (fun s7 H7 C7 cl7 fp7 => (px_call (f := 2) (ok.toKOk.blk s7 H7 _ C7 cl7 fp7) rfl G.f_in_lowest (.x (px_var (pv 1)) rfl (.x (px_pr (ar_b (call_len_seq) rfl G.b_len boot_len (.s (pv 2) rfl .nil)) prim_len) rfl .nil))))) rfl .nil)))
 psts_nil)))
theorem t_levelled (G : Gx L) (ok : SOk (L.kx c ["tree", "some", "costs", "found", "ways", "branch", "cost", "open_ones", "at", "lack", "peak", "ratio", "widest"] "levelled" (defScope (top 21)) f cdv A outer s H E') n) : PSts (L.kx c ["tree", "some", "costs", "found", "ways", "branch", "cost", "open_ones", "at", "lack", "peak", "ratio", "widest"] "levelled" (defScope (top 21)) f cdv A outer s H E') [0, 1, 2, 3, 4, 5, 6, 7, 8, 9, 10, 11, 12] (defBody (top 21)) b_levelled :=
 have ND := ok.nd
 (psts_cons (pst_expr (px_call (f := 6) ok.toKOk rfl G.f_need_tree (.x (px_var (pv 0)) rfl .nil)))
 (psts_cons (pst_parT (is := [1, 2, 3]) ok (.x (px_call (f := 7) ok.toKOk rfl G.f_branches (.x (px_var (pv 0)) rfl .nil)) rfl (.x (px_call (f := 8) ok.toKOk rfl G.f_costs_in (.x (px_var (pv 0)) rfl .nil)) rfl (.x (px_bin op_mulAll prim_mul (.x (px_lst (.x px_non rfl .nil)) rfl (.x (px_pr (ar_b (call_len_seq) rfl G.b_len boot_len (.s (pv 0) rfl .nil)) prim_len) rfl .nil))) rfl .nil))) (pgs_cons (pgN 1 ND) (pgs_cons (pgN 2 ND) (pgs_cons (pgN 3 ND) pgs_nil))))
 (psts_cons (pst_while ok (ptx_cmp (op_inAll ok.hu) prim_isin (.x px_non rfl (.s (pv 3) rfl .nil)))
 (psts_cons (pst_asgA ok rfl (px_lst .nil))
 (psts_cons (pst_for [5, 6, 7, 8, 9] ok (psx_zip rfl G.b_zip (.s (pv 1) rfl (.s (pv 2) rfl .nil))) (pg_tp ok.calm (pgs_cons (pgN 5 ND) (pgs_cons (pgN 6 ND) pgs_nil))) tgOk_tp
 (psts_cons (pst_asgLc [("at", 8)] ok rfl rfl (psx_slt (pv 5)) (by first | rfl | with_unfolding_all rfl | kernel_rfl) tgOk_nm (by decide) (fun s10 H10 C10 cl10 fp10 => (pgN 8 ND)) (fun s10 H10 C10 cl10 fp10 => (pts1 (ptx_isN (.x (px_pr (ar_ix (ix_all (ok.toKOk.blk s10 H10 _ C10 cl10 fp10).hu) (.s (pv 3) rfl (.s (pv 8) rfl .nil)) (fun _ _ => rfl)) prim_ix) rfl .nil)))) (fun s10 H10 C10 cl10 fp10 => (px_var (pv 8))) (sw_true rfl rfl rfl rfl))
 (psts_cons (pst_asgA ok rfl (px_tup (.x (px_var (pv 6)) rfl (.x px_int rfl .nil))))
 (psts_cons (pst_for [8, 9] ok (psx_slt (pv 5)) (pgN 8 ND) tgOk_nm
 (psts_cons (pst_if (ptx_notN (.x (px_pr (ar_ix (ix_all ok.hu) (.s (pv 3) rfl (.s (pv 8) rfl .nil)) (fun _ _ => rfl)) prim_ix) rfl .nil))
 (psts_cons (pst_asgA ok rfl (px_call (f := 3) ok.toKOk rfl G.f_sum_of (.x (px_var (pv 9)) rfl (.x (px_tup (.x (px_pr (ar_un un_neg (.x (px_pr (ar_ix (ix_all ok.hu) (.x (px_pr (ar_ix (ix_all ok.hu) (.s (pv 3) rfl (.s (pv 8) rfl .nil)) (fun _ _ => rfl)) prim_ix) rfl (.x px_int rfl .nil)) (fun _ _ => rfl)) prim_ix) rfl .nil)) prim_neg) rfl (.x (px_pr (ar_ix (ix_all ok.hu) (.x (px_pr (ar_ix (ix_all ok.hu) (.s (pv 3) rfl (.s (pv 8) rfl .nil)) (fun _ _ => rfl)) prim_ix) rfl (.x px_int rfl .nil)) (fun _ _ => rfl)) prim_ix) rfl .nil))) rfl .nil))))
 psts_nil)
 psts_nil)
 psts_nil))
 (psts_cons (pst_if (ptx_cmp (op_neAll ok.hu) prim_ne (.s (pv 7) rfl (.x (px_lst .nil) rfl .nil)))
 (psts_cons (pst_app (pv 4) (px_tup (.x (px_call (f := 2) ok.toKOk rfl G.f_in_lowest (.x (px_pr (ar_ix (ix_all ok.hu) (.s (pv 9) rfl (.x px_int rfl .nil)) (fun _ _ => rfl)) prim_ix) rfl (.x (px_bin op_mulAll prim_mul (.x (px_pr (ar_ix (ix_all ok.hu) (.s (pv 9) rfl (.x px_int rfl .nil)) (fun _ _ => rfl)) prim_ix) rfl (.x (px_pr (ar_b (call_len_seq) rfl G.b_len boot_len (.s (pv 7) rfl .nil)) prim_len) rfl .nil))) rfl .nil))) rfl (.x (px_var (pv 7)) rfl .nil))))
 psts_nil)
 psts_nil)
 psts_nil)))))
 (psts_cons (pst_asgA ok rfl (px_call (f := 10) ok.toKOk rfl G.f_greatest (.x (px_lc [("ratio", 11), ("open_ones", 7)] ok.toKOk ND (psx_slt (pv 4)) (by first | rfl | with_unfolding_all rfl | kernel_rfl) tgOk_tp (by decide) (fun s9 H9 C9 cl9 fp9 => (pg_tp (ok.toKOk.blk s9 H9 _ C9 cl9 fp9).calm (pgs_cons (pgN 11 ND) (pgs_cons (pgN 7 ND) pgs_nil)))) (fun s9 H9 C9 cl9 fp9 => pts_none) (fun s9 H9 C9 cl9 fp9 => (px_var (pv 11)))) rfl .nil)))
 (psts_cons (pst_asgA ok rfl (px_pr (ar_maxLen ok.calm rfl G.b_max rfl G.b_len (.x (px_lc [("ratio", 11), ("open_ones", 7)] ok.toKOk ND (psx_slt (pv 4)) (by first | rfl | with_unfolding_all rfl | kernel_rfl) tgOk_tp (by decide) (fun s8 H8 C8 cl8 fp8 => (pg_tp (ok.toKOk.blk s8 H8 _ C8 cl8 fp8).calm (pgs_cons (pgN 11 ND) (pgs_cons (pgN 7 ND) pgs_nil)))) (fun s8 H8 C8 cl8 fp8 => (pts1 (ptx_cmp (op_eqAll (ok.toKOk.blk s8 H8 _ C8 cl8 fp8).hu) prim_eq (.s (pv 11) rfl (.s (pv 10) rfl .nil))))) (fun s8 H8 C8 cl8 fp8 => (px_var (pv 7)))) rfl .nil)) prim_maxLen))
 (psts_cons (pst_for [8] ok (psx_slt (pv 12)) (pgN 8 ND) tgOk_nm
 (psts_cons (pst_setix ok (pv 3) (px_var (pv 8)) (px_var (pv 10)))
 psts_nil))
 psts_nil))))))
 (psts_cons (pst_ret (px_pr (ar_ty call_tuple_of rfl G.b_tuple boot_tuple (.s (pv 3) rfl .nil)) prim_tuple))
 psts_nil))))
theorem t__law_cup (G : Gx L) (ok : SOk (L.kx c ["script", "cell"] "_law_cup" (defScope (top 23)) f cdv A outer s H E') n) : PSts (L.kx c ["script", "cell"] "_law_cup" (defScope (top 23)) f cdv A outer s H E') [0, 1] (defBody (top 23)) b__law_cup :=
 have ND := ok.nd
 (psts_cons (pst_asgA ok rfl (px_pr (ar_b call_abs rfl G.b_abs boot_abs (.x (px_pr (ar_ix (ix_all ok.hu) (.x (px_bin op_addAll prim_add (.x (px_pr (ar_ty call_list_of rfl G.b_list boot_list (.s (pv 0) rfl .nil)) prim_list) rfl (.x (px_lst (.x px_int rfl .nil)) rfl .nil))) rfl (.x px_int rfl .nil)) (fun _ _ => rfl)) prim_ix) rfl .nil)) prim_abs))
 (psts_cons (pst_ret (px_lst (.x (px_ite (ptx_cmp op_ge prim_ge (.s (pv 1) rfl (.x (px_bin op_pow prim_pow (.x px_int rfl (.x px_int rfl .nil))) rfl .nil))) (px_bin op_fdivW prim_fdiv (.s (pv 1) rfl (.x px_int rfl .nil))) px_int) rfl (.x (px_bin op_addAll prim_add (.x (px_bin op_mod prim_mod (.x (px_pr (ar_ty call_int1 rfl G.b_int boot_int (.x (px_bin op_addAll prim_add (.x (px_bin op_mulAll prim_mul (.s (pv 1) rfl (.x px_int rfl .nil))) rfl (.x px_int rfl .nil))) rfl .nil)) prim_int) rfl (.x px_int rfl .nil))) rfl (.x px_int rfl .nil))) rfl .nil))))
 psts_nil))
theorem t__law_roll (G : Gx L) (ok : SOk (L.kx c ["cup", "many", "found", "deep"] "_law_roll" (defScope (top 24)) f cdv A outer s H E') n) : PSts (L.kx c ["cup", "many", "found", "deep"] "_law_roll" (defScope (top 24)) f cdv A outer s H E') [1, 2, 3] (defBody (top 24)) b__law_roll :=
 have ND := ok.nd
 (psts_cons (pst_if (ptx_cmp op_gt prim_gt (.x (px_pr (ar_ix (ix_all ok.hu) (.s (pv 0) rfl (.x px_int rfl .nil)) (fun _ _ => rfl)) prim_ix) rfl (.x px_int rfl .nil)))
 (psts_cons (pst_asgA ok rfl (px_bin op_mod prim_mod (.x (px_pr (ar_ty call_int1 rfl G.b_int boot_int (.x (px_pr (ar_ix (ix_all ok.hu) (.s (pv 0) rfl (.x px_int rfl .nil)) (fun _ _ => rfl)) prim_ix) rfl .nil)) prim_int) rfl (.s (pv 1) rfl .nil))))
 (psts_cons (pst_setix ok (pv 0) px_int (px_bin op_fdivW prim_fdiv (.x (px_pr (ar_ix (ix_all ok.hu) (.s (pv 0) rfl (.x px_int rfl .nil)) (fun _ _ => rfl)) prim_ix) rfl (.s (pv 1) rfl .nil))))
 (psts_cons (pst_ret (px_mv (pv 2)))
 psts_nil)))
 psts_nil)
 (psts_cons (pst_setix ok (pv 0) px_int (px_bin op_mod prim_mod (.x (px_pr (ar_ty call_int1 rfl G.b_int boot_int (.x (px_bin op_addAll prim_add (.x (px_bin op_mulAll prim_mul (.x (px_pr (ar_ix (ix_all ok.hu) (.s (pv 0) rfl (.x px_int rfl .nil)) (fun _ _ => rfl)) prim_ix) rfl (.x px_int rfl .nil))) rfl (.x px_int rfl .nil))) rfl .nil)) prim_int) rfl (.x px_int rfl .nil))))
 (psts_cons (pst_asgA ok rfl (px_bin op_mod prim_mod (.x (px_pr (ar_ty call_int1 rfl G.b_int boot_int (.x (px_bin op_mulAll prim_mul (.x (px_pr (ar_ix (ix_all ok.hu) (.s (pv 0) rfl (.x px_int rfl .nil)) (fun _ _ => rfl)) prim_ix) rfl (.x (px_bin op_addAll prim_add (.x (px_pr (ar_ix (ix_all ok.hu) (.s (pv 0) rfl (.x px_int rfl .nil)) (fun _ _ => rfl)) prim_ix) rfl (.x px_int rfl .nil))) rfl .nil))) rfl .nil)) prim_int) rfl (.x px_int rfl .nil))))
 (psts_cons (pst_ret (px_bin op_mod prim_mod (.x (px_pr (ar_ty call_int1 rfl G.b_int boot_int (.x (px_bin op_fdivW prim_fdiv (.s (pv 3) rfl (.x px_int rfl .nil))) rfl .nil)) prim_int) rfl (.s (pv 1) rfl .nil))))
 psts_nil))))
theorem t__law_some (G : Gx L) (ok : SOk (L.kx c ["cup", "things"] "_law_some" (defScope (top 25)) f cdv A outer s H E') n) : PSts (L.kx c ["cup", "things"] "_law_some" (defScope (top 25)) f cdv A outer s H E') [1] (defBody (top 25)) b__law_some :=
 have ND := ok.nd
 (psts_cons (pst_ret (px_pr (ar_ix (ix_all ok.hu) (.s (pv 1) rfl (.x (px_call (f := 14) ok.toKOk rfl G.f__law_roll (.s (pv 0) rfl (.x (px_pr (ar_b (call_len_seq) rfl G.b_len boot_len (.s (pv 1) rfl .nil)) prim_len) rfl .nil))) rfl .nil)) (fun _ _ => rfl)) prim_ix))
 psts_nil)
theorem t__law_sort (G : Gx L) (ok : SOk (L.kx c ["value"] "_law_sort" (defScope (top 26)) f cdv A outer s H E') n) : PSts (L.kx c ["value"] "_law_sort" (defScope (top 26)) f cdv A outer s H E') [0] (defBody (top 26)) b__law_sort :=
 have ND := ok.nd
 (psts_cons (pst_if (ptx_w (pwx_or (ptx_isN (.s (pv 0) rfl .nil)) (pwx_or1 (ptx_val (px_pr (ar_isi (t := .bool) rfl G.b_isinstance rfl G.b_bool boot_bool (.s (pv 0) rfl .nil)) prim_isinst)))))
 (psts_cons (pst_ret (px_ite (ptx_isN (.s (pv 0) rfl .nil)) px_int px_int))
 psts_nil)
 psts_nil)
 (psts_cons (pst_if (ptx_w (pwx_or (ptx_val (px_pr (ar_isi (t := .int) rfl G.b_isinstance rfl G.b_int boot_int (.s (pv 0) rfl .nil)) prim_isinst)) (pwx_or1 (ptx_val (px_pr (ar_isi (t := .str) rfl G.b_isinstance rfl G.b_str boot_str (.s (pv 0) rfl .nil)) prim_isinst)))))
 (psts_cons (pst_ret (px_ite (ptx_val (px_pr (ar_isi (t := .int) rfl G.b_isinstance rfl G.b_int boot_int (.s (pv 0) rfl .nil)) prim_isinst)) px_int px_int))
 psts_nil)
 psts_nil)
 (psts_cons (pst_ret (px_ite (ptx_val (px_pr (ar_isi (t := .tuple) rfl G.b_isinstance rfl G.b_tuple boot_tuple (.s (pv 0) rfl .nil)) prim_isinst)) px_int (px_ite (ptx_val (px_pr (ar_isi (t := .list) rfl G.b_isinstance rfl G.b_list boot_list (.s (pv 0) rfl .nil)) prim_isinst)) px_int px_int)))
 psts_nil)))
theorem t__law_like (G : Gx L) (ok : SOk (L.kx c ["one", "other", "sort", "first", "second"] "_law_like" (defScope (top 27)) f cdv A outer s H E') n) : PSts (L.kx c ["one", "other", "sort", "first", "second"] "_law_like" (defScope (top 27)) f cdv A outer s H E') [0, 1, 2, 3, 4] (defBody (top 27)) b__law_like :=
 have ND := ok.nd
 (psts_cons (pst_asgA ok rfl (px_call (f := 16) ok.toKOk rfl G.f__law_sort (.x (px_var (pv 1)) rfl .nil)))
 (psts_cons (pst_if (ptx_w (pwx_or (ptx_cmp (op_neAll ok.hu) prim_ne (.x (px_call (f := 16) ok.toKOk rfl G.f__law_sort (.x (px_var (pv 0)) rfl .nil)) rfl (.s (pv 2) rfl .nil))) (pwx_or1 (ptx_cmp (op_eqAll ok.hu) prim_eq (.s (pv 2) rfl (.x px_int rfl .nil))))))
 (psts_cons (pst_ret px_bl)
 psts_nil)
 psts_nil)
 (psts_cons (pst_if (ptx_cmp (op_inAll ok.hu) prim_isin (.s (pv 2) rfl (.x (px_tup (.x px_int rfl (.x px_int rfl .nil))) rfl .nil)))
 (psts_cons (pst_ret (px_and (px_cmp (op_eqAll ok.hu) prim_eq (.x (px_pr (ar_b (call_len_seq) rfl G.b_len boot_len (.s (pv 0) rfl .nil)) prim_len) rfl (.x (px_pr (ar_b (call_len_seq) rfl G.b_len boot_len (.s (pv 1) rfl .nil)) prim_len) rfl .nil))) (px_and1 (px_cmp (op_eqAll ok.hu) prim_eq (.x (px_lc [("first", 3), ("second", 4)] ok.toKOk ND (psx_zip rfl G.b_zip (.x (px_var (pv 0)) rfl (.x (px_var (pv 1)) rfl .nil))) (by first | rfl | with_unfolding_all rfl | kernel_rfl) tgOk_tp (by decide) (fun s11 H11 C11 cl11 fp11 => (pg_tp (ok.toKOk.blk s11 H11 _ C11 cl11 fp11).calm (pgs_cons (pgN 3 ND) (pgs_cons (pgN 4 ND) pgs_nil)))) (fun s11 H11 C11 cl11 fp11 => (pts1 (ptx_not (ptx_val (px_call (f := 17) (ok.toKOk.blk s11 H11 _ C11 cl11 fp11) rfl G.f__law_like (.x (px_var (pv 3)) rfl (.x (px_var (pv 4)) rfl .nil))))))) (fun s11 H11 C11 cl11 fp11 => px_int)) rfl (.x (px_lst .nil) rfl .nil))))))
 psts_nil)
 psts_nil)
 (psts_cons (pst_ret (px_cmp (op_eqAll ok.hu) prim_eq (.s (pv 0) rfl (.s (pv 1) rfl .nil))))
 psts_nil))))
theorem t__law_low (G : Gx L) (ok : SOk (L.kx c ["top", "bottom", "one", "other", "turn", "shared"] "_law_low" (defScope (top 28)) f cdv A outer s H E') n) : PSts (L.kx c ["top", "bottom", "one", "other", "turn", "shared"] "_law_low" (defScope (top 28)) f cdv A outer s H E') [0, 1, 2, 3, 4, 5] (defBody (top 28)) b__law_low :=
 have ND := ok.nd
 (psts_cons (pst_par2 ok rfl rfl (by decide) rfl rfl (.x (px_pr (ar_b call_abs rfl G.b_abs boot_abs (.s (pv 0) rfl .nil)) prim_abs) rfl (.x (px_pr (ar_b call_abs rfl G.b_abs boot_abs (.s (pv 1) rfl .nil)) prim_abs) rfl .nil)) (by first | rfl | with_unfolding_all rfl | kernel_rfl))
 (psts_cons (pst_for [2, 3, 4, 5] ok (psx_rng1 rfl G.b_range (.x px_int rfl .nil)) (pgN 4 ND) tgOk_nm
 (psts_cons (pst_if (ptx_cmp (op_eqAll ok.hu) prim_eq (.s (pv 3) rfl (.x px_int rfl .nil)))
 (psts_cons (pst_asgA ok rfl (px_ite (ptx_cmp op_gt prim_gt (.s (pv 1) rfl (.x px_int rfl .nil))) (px_var (pv 2)) (px_pr (ar_un un_neg (.s (pv 2) rfl .nil)) prim_neg)))
 (psts_cons (pst_ret (px_tup (.x (px_bin op_fdivW prim_fdiv (.s (pv 0) rfl (.s (pv 5) rfl .nil))) rfl (.x (px_bin op_fdivW prim_fdiv (.s (pv 1) rfl (.s (pv 5) rfl .nil))) rfl .nil))))
 psts_nil))
 psts_nil)
 (psts_cons (pst_par2 ok rfl rfl (by decide) rfl rfl (.x (px_var (pv 3)) rfl (.x (px_bin op_mod prim_mod (.x (px_pr (ar_ty call_int1 rfl G.b_int boot_int (.s (pv 2) rfl .nil)) prim_int) rfl (.s (pv 3) rfl .nil))) rfl .nil)) (by first | rfl | with_unfolding_all rfl | kernel_rfl))
 psts_nil)))
 (psts_cons (pst_ret (px_tup (.x (px_var (pv 0)) rfl (.x (px_var (pv 1)) rfl .nil))))
 psts_nil)))
theorem t__law_add (G : Gx L) (ok : SOk (L.kx c ["one", "other"] "_law_add" (defScope (top 29)) f cdv A outer s H E') n) : PSts (L.kx c ["one", "other"] "_law_add" (defScope (top 29)) f cdv A outer s H E') [0, 1] (defBody (top 29)) b__law_add :=
 have ND := ok.nd
 (psts_cons (pst_ret (px_call (f := 18) ok.toKOk rfl G.f__law_low (.x (px_bin op_addAll prim_add (.x (px_bin op_mulAll prim_mul (.x (px_pr (ar_ix (ix_all ok.hu) (.s (pv 0) rfl (.x px_int rfl .nil)) (fun _ _ => rfl)) prim_ix) rfl (.x (px_pr (ar_ix (ix_all ok.hu) (.s (pv 1) rfl (.x px_int rfl .nil)) (fun _ _ => rfl)) prim_ix) rfl .nil))) rfl (.x (px_bin op_mulAll prim_mul (.x (px_pr (ar_ix (ix_all ok.hu) (.s (pv 1) rfl (.x px_int rfl .nil)) (fun _ _ => rfl)) prim_ix) rfl (.x (px_pr (ar_ix (ix_all ok.hu) (.s (pv 0) rfl (.x px_int rfl .nil)) (fun _ _ => rfl)) prim_ix) rfl .nil))) rfl .nil))) rfl (.x (px_bin op_mulAll prim_mul (.x (px_pr (ar_ix (ix_all ok.hu) (.s (pv 0) rfl (.x px_int rfl .nil)) (fun _ _ => rfl)) prim_ix) rfl (.x (px_pr (ar_ix (ix_all ok.hu) (.s (pv 1) rfl (.x px_int rfl .nil)) (fun _ _ => rfl)) prim_ix) rfl .nil))) rfl .nil))))
 psts_nil)
theorem t__law_order (G : Gx L) (ok : SOk (L.kx c ["pairs", "found", "pair", "at", "own"] "_law_order" (defScope (top 30)) f cdv A outer s H E') n) : PSts (L.kx c ["pairs", "found", "pair", "at", "own"] "_law_order" (defScope (top 30)) f cdv A outer s H E') [0, 1, 2, 3, 4] (defBody (top 30)) b__law_order :=
 have ND := ok.nd
 (psts_cons (pst_asgA ok rfl (px_lst .nil))
 (psts_cons (pst_for [1, 2, 3] ok (psx_x (px_var (pv 0))) (pgN 2 ND) tgOk_nm
 (psts_cons (pst_asgA ok rfl (px_pr (ar_b (call_len_seq) rfl G.b_len boot_len (.x (px_lc [("own", 4)] ok.toKOk ND (psx_slt (pv 1)) (by first | rfl | with_unfolding_all rfl | kernel_rfl) tgOk_nm (by decide) (fun s12 H12 C12 cl12 fp12 => (pgN 4 ND)) (fun s12 H12 C12 cl12 fp12 => (pts1 (ptx_cmp op_lt prim_lt (.x (px_bin op_mulAll prim_mul (.x (px_pr (ar_ix (ix_all (ok.toKOk.blk s12 H12 _ C12 cl12 fp12).hu) (.s (pv 4) rfl (.x px_int rfl .nil)) (fun _ _ => rfl)) prim_ix) rfl (.x (px_pr (ar_ix (ix_all (ok.toKOk.blk s12 H12 _ C12 cl12 fp12).hu) (.s (pv 2) rfl (.x px_int rfl .nil)) (fun _ _ => rfl)) prim_ix) rfl .nil))) rfl (.x (px_bin op_mulAll prim_mul (.x (px_pr (ar_ix (ix_all (ok.toKOk.blk s12 H12 _ C12 cl12 fp12).hu) (.s (pv 2) rfl (.x px_int rfl .nil)) (fun _ _ => rfl)) prim_ix) rfl (.x (px_pr (ar_ix (ix_all (ok.toKOk.blk s12 H12 _ C12 cl12 fp12).hu) (.s (pv 4) rfl (.x px_int rfl .nil)) (fun _ _ => rfl)) prim_ix) rfl .nil))) rfl .nil))))) (fun s12 H12 C12 cl12 fp12 => (px_var (pv 4)))) rfl .nil)) prim_len))
 (psts_cons (pst_asgA ok rfl (px_ite (ptx_cmp (op_inAll ok.hu) prim_isin (.s (pv 2) rfl (.s (pv 1) rfl .nil))) (px_var (pv 1)) (px_bin op_addAll prim_add (.x (px_bin op_addAll prim_add (.x (px_pr (ar_s01 (.s (pv 1) rfl (.s (pv 3) rfl .nil))) prim_s01) rfl (.x (px_lst (.x (px_var (pv 2)) rfl .nil)) rfl .nil))) rfl (.x (px_pr (ar_s10 (.s (pv 1) rfl (.s (pv 3) rfl .nil))) prim_s10) rfl .nil)))))
 psts_nil)))
 (psts_cons (pst_ret (px_mv (pv 1)))
 psts_nil)))
theorem t__law_is_pair (G : Gx L) (ok : SOk (L.kx c ["value", "tops", "bottoms"] "_law_is_pair" (defScope (top 31)) f cdv A outer s H E') n) : PSts (L.kx c ["value", "tops", "bottoms"] "_law_is_pair" (defScope (top 31)) f cdv A outer s H E') [0, 1, 2] (defBody (top 31)) b__law_is_pair :=
 have ND := ok.nd
 (psts_cons (pst_if (ptx_w (pwx_or (ptx_cmp (op_neAll ok.hu) prim_ne (.x (px_call (f := 16) ok.toKOk rfl G.f__law_sort (.x (px_var (pv 0)) rfl .nil)) rfl (.x px_int rfl .nil))) (pwx_or (ptx_cmp (op_neAll ok.hu) prim_ne (.x (px_pr (ar_b (call_len_seq) rfl G.b_len boot_len (.s (pv 0) rfl .nil)) prim_len) rfl (.x px_int rfl .nil))) (pwx_or (ptx_cmp (op_neAll ok.hu) prim_ne (.x (px_call (f := 16) ok.toKOk rfl G.f__law_sort (.x (px_pr (ar_ix (ix_all ok.hu) (.s (pv 0) rfl (.x px_int rfl .nil)) (fun _ _ => rfl)) prim_ix) rfl .nil)) rfl (.x px_int rfl .nil))) (pwx_or1 (ptx_cmp (op_neAll ok.hu) prim_ne (.x (px_call (f := 16) ok.toKOk rfl G.f__law_sort (.x (px_pr (ar_ix (ix_all ok.hu) (.s (pv 0) rfl (.x px_int rfl .nil)) (fun _ _ => rfl)) prim_ix) rfl .nil)) rfl (.x px_int rfl .nil))))))))
 (psts_cons (pst_ret px_bl)
 psts_nil)
 psts_nil)
 (psts_cons (pst_ret (px_and (px_chn op_le prim_le op_le prim_le px_int (px_pr (ar_ix (ix_all ok.hu) (.s (pv 0) rfl (.x px_int rfl .nil)) (fun _ _ => rfl)) prim_ix) (px_var (pv 1))) (px_and (px_chn op_le prim_le op_le prim_le px_int (px_pr (ar_ix (ix_all ok.hu) (.s (pv 0) rfl (.x px_int rfl .nil)) (fun _ _ => rfl)) prim_ix) (px_var (pv 2))) (px_and1 (px_cmp (op_eqAll ok.hu) prim_eq (.x (px_call (f := 18) ok.toKOk rfl G.f__law_low (.x (px_pr (ar_ix (ix_all ok.hu) (.s (pv 0) rfl (.x px_int rfl .nil)) (fun _ _ => rfl)) prim_ix) rfl (.x (px_pr (ar_ix (ix_all ok.hu) (.s (pv 0) rfl (.x px_int rfl .nil)) (fun _ _ => rfl)) prim_ix) rfl .nil))) rfl (.s (pv 0) rfl .nil)))))))
 psts_nil))
theorem t__law_tree (G : Gx L) (ok : SOk (L.kx c ["cup", "many", "cost", "way", "found", "at", "before"] "_law_tree" (defScope (top 32)) f cdv A outer s H E') n) : PSts (L.kx c ["cup", "many", "cost", "way", "found", "at", "before"] "_law_tree" (defScope (top 32)) f cdv A outer s H E') [1, 2, 3, 4, 5, 6] (defBody (top 32)) b__law_tree :=
 have ND := ok.nd
 (psts_cons (pst_par2 ok rfl rfl (by decide) rfl rfl (.x (px_call (f := 14) ok.toKOk rfl G.f__law_roll (.s (pv 0) rfl (.x px_int rfl .nil))) rfl (.x (px_lst .nil) rfl .nil)) (by first | rfl | with_unfolding_all rfl | kernel_rfl))
 (psts_cons (pst_for [5, 6] ok (psx_rng1 rfl G.b_range (.s (pv 1) rfl .nil)) (pgN 5 ND) tgOk_nm
 (psts_cons (pst_asgA ok rfl (px_ite (ptx_cmp (op_eqAll ok.hu) prim_eq (.s (pv 3) rfl (.x px_int rfl .nil))) (px_var (pv 5)) (px_ite (ptx_cmp (op_eqAll ok.hu) prim_eq (.s (pv 3) rfl (.x px_int rfl .nil))) px_int (px_ite (ptx_cmp (op_eqAll ok.hu) prim_eq (.s (pv 3) rfl (.x px_int rfl .nil))) (px_pr (ar_b (call_max2 ok.calm) rfl G.b_max boot_max (.x px_int rfl (.x (px_bin op_sub prim_sub (.s (pv 5) rfl (.x (px_call (f := 14) ok.toKOk rfl G.f__law_roll (.s (pv 0) rfl (.x px_int rfl .nil))) rfl .nil))) rfl .nil))) prim_max2) (px_call (f := 14) ok.toKOk rfl G.f__law_roll (.s (pv 0) rfl (.x (px_bin op_addAll prim_add (.s (pv 5) rfl (.x px_int rfl .nil))) rfl .nil)))))))
 (psts_cons (pst_app (pv 4) (px_tup (.x (px_var (pv 6)) rfl (.x (px_call (f := 15) ok.toKOk rfl G.f__law_some (.s (pv 0) rfl (.x (px_lst (.x px_int rfl (.x px_int rfl (.x px_int rfl (.x px_int rfl (.x (px_call (f := 14) ok.toKOk rfl G.f__law_roll (.s (pv 0) rfl (.x (px_bin op_addAll prim_add (.s (pv 2) rfl (.x px_int rfl .nil))) rfl .nil))) rfl .nil)))))) rfl .nil))) rfl .nil))))
 psts_nil)))
 (psts_cons (pst_ret (px_pr (ar_ty call_tuple_of rfl G.b_tuple boot_tuple (.s (pv 4) rfl .nil)) prim_tuple))
 psts_nil)))
theorem t__law_way (G : Gx L) (ok : SOk (L.kx c ["tree", "place", "found", "turn"] "_law_way" (defScope (top 33)) f cdv A outer s H E') n) : PSts (L.kx c ["tree", "place", "found", "turn"] "_law_way" (defScope (top 33)) f cdv A outer s H E') [0, 1, 2, 3] (defBody (top 33)) b__law_way :=
 have ND := ok.nd
 (psts_cons (pst_asgA ok rfl (px_lst .nil))
 (psts_cons (pst_for [1, 3] ok (psx_rng1 rfl G.b_range (.x (px_pr (ar_b (call_len_seq) rfl G.b_len boot_len (.s (pv 0) rfl .nil)) prim_len) rfl .nil)) (pgN 3 ND) tgOk_nm
 (psts_cons (pst_if (ptx_cmp op_gt prim_gt (.s (pv 1) rfl (.x px_int rfl .nil)))
 (psts_cons (pst_app (pv 2) (px_bin op_sub prim_sub (.s (pv 1) rfl (.x px_int rfl .nil))))
 (psts_cons (pst_asgA ok rfl (px_pr (ar_ix (ix_all ok.hu) (.x (px_pr (ar_ix (ix_all ok.hu) (.s (pv 0) rfl (.x (px_bin op_sub prim_sub (.s (pv 1) rfl (.x px_int rfl .nil))) rfl .nil)) (fun _ _ => rfl)) prim_ix) rfl (.x px_int rfl .nil)) (fun _ _ => rfl)) prim_ix))
 psts_nil))
 psts_nil)
 psts_nil))
 (psts_cons (pst_ret (px_mv (pv 2)))
 psts_nil)))
theorem t__law_branch (G : Gx L) (ok : SOk (L.kx c ["tree", "place", "at"] "_law_branch" (defScope (top 34)) f cdv A outer s H E') n) : PSts (L.kx c ["tree", "place", "at"] "_law_branch" (defScope (top 34)) f cdv A outer s H E') [0, 1, 2] (defBody (top 34)) b__law_branch :=
 have ND := ok.nd
 (psts_cons (pst_ret (px_lc [("at", 2)] ok.toKOk ND (psx_rng1 rfl G.b_range (.x (px_pr (ar_b (call_len_seq) rfl G.b_len boot_len (.s (pv 0) rfl .nil)) prim_len) rfl .nil)) (by first | rfl | with_unfolding_all rfl | kernel_rfl) tgOk_nm (by decide) (fun s13 H13 C13 cl13 fp13 => (pgN 2 ND)) (fun s13 H13 C13 cl13 fp13 => (pts1 (ptx_cmp (op_inAll (ok.toKOk.blk s13 H13 _ C13 cl13 fp13).hu) prim_isin (.x (px_bin op_sub prim_sub (.s (pv 1) rfl (.x px_int rfl .nil))) rfl (.x (px_call (f := 23) (ok.toKOk.blk s13 H13 _ C13 cl13 fp13) rfl G.f__law_way (.x (px_var (pv 0)) rfl (.x (px_bin op_addAll prim_add (.s (pv 2) rfl (.x px_int rfl .nil))) rfl .nil))) rfl .nil))))) (fun s13 H13 C13 cl13 fp13 => (px_var (pv 2)))))
 psts_nil)
theorem t__law_cost (G : Gx L) (ok : SOk (L.kx c ["tree", "place", "at"] "_law_cost" (defScope (top 35)) f cdv A outer s H E') n) : PSts (L.kx c ["tree", "place", "at"] "_law_cost" (defScope (top 35)) f cdv A outer s H E') [0, 1, 2] (defBody (top 35)) b__law_cost :=
 have ND := ok.nd
 (psts_cons (pst_ret (px_pr (ar_b (cr_sum ok.calm) rfl G.b_sum boot_sum (.x (px_lc [("at", 2)] ok.toKOk ND (psx_x (px_call (f := 24) ok.toKOk rfl G.f__law_branch (.x (px_var (pv 0)) rfl (.x (px_var (pv 1)) rfl .nil)))) (by first | rfl | with_unfolding_all rfl | kernel_rfl) tgOk_nm (by decide) (fun s14 H14 C14 cl14 fp14 => (pgN 2 ND)) (fun s14 H14 C14 cl14 fp14 => pts_none) (fun s14 H14 C14 cl14 fp14 => (px_pr (ar_ix (ix_all (ok.toKOk.blk s14 H14 _ C14 cl14 fp14).hu) (.x (px_pr (ar_ix (ix_all (ok.toKOk.blk s14 H14 _ C14 cl14 fp14).hu) (.s (pv 0) rfl (.s (pv 2) rfl .nil)) (fun _ _ => rfl)) prim_ix) rfl (.x px_int rfl .nil)) (fun _ _ => rfl)) prim_ix))) rfl .nil)) prim_sum))
 psts_nil)
theorem t__law_sum (G : Gx L) (ok : SOk (L.kx c ["pairs", "found", "pair"] "_law_sum" (defScope (top 37)) f cdv A outer s H E') n) : PSts (L.kx c ["pairs", "found", "pair"] "_law_sum" (defScope (top 37)) f cdv A outer s H E') [0, 1, 2] (defBody (top 37)) b__law_sum :=
 have ND := ok.nd
 (psts_cons (pst_asgA ok rfl (px_tup (.x px_int rfl (.x px_int rfl .nil))))
 (psts_cons (pst_for [1, 2] ok (psx_x (px_var (pv 0))) (pgN 2 ND) tgOk_nm
 (psts_cons (pst_asgA ok rfl (px_call (f := 19) ok.toKOk rfl G.f__law_add (.x (px_var (pv 1)) rfl (.x (px_var (pv 2)) rfl .nil))))
 psts_nil))
 (psts_cons (pst_ret (px_mv (pv 1)))
 psts_nil)))
theorem t__law_less (G : Gx L) (ok : SOk (L.kx c ["one", "other"] "_law_less" (defScope (top 38)) f cdv A outer s H E') n) : PSts (L.kx c ["one", "other"] "_law_less" (defScope (top 38)) f cdv A outer s H E') [0, 1] (defBody (top 38)) b__law_less :=
 have ND := ok.nd
 (psts_cons (pst_ret (px_cmp op_lt prim_lt (.x (px_bin op_mulAll prim_mul (.x (px_pr (ar_ix (ix_all ok.hu) (.s (pv 0) rfl (.x px_int rfl .nil)) (fun _ _ => rfl)) prim_ix) rfl (.x (px_pr (ar_ix (ix_all ok.hu) (.s (pv 1) rfl (.x px_int rfl .nil)) (fun _ _ => rfl)) prim_ix) rfl .nil))) rfl (.x (px_bin op_mulAll prim_mul (.x (px_pr (ar_ix (ix_all ok.hu) (.s (pv 1) rfl (.x px_int rfl .nil)) (fun _ _ => rfl)) prim_ix) rfl (.x (px_pr (ar_ix (ix_all ok.hu) (.s (pv 0) rfl (.x px_int rfl .nil)) (fun _ _ => rfl)) prim_ix) rfl .nil))) rfl .nil))))
 psts_nil)
theorem t__law_are_fair (G : Gx L) (ok : SOk (L.kx c ["tree", "amounts", "one", "before", "cost", "tight", "place", "branch", "paid", "at"] "_law_are_fair" (defScope (top 39)) f cdv A outer s H E') n) : PSts (L.kx c ["tree", "amounts", "one", "before", "cost", "tight", "place", "branch", "paid", "at"] "_law_are_fair" (defScope (top 39)) f cdv A outer s H E') [0, 1, 2, 3, 4, 5, 6, 7, 8, 9] (defBody (top 39)) b__law_are_fair :=
 have ND := ok.nd
 (psts_cons (pst_if (ptx_w (pwx_or (ptx_cmp (op_neAll ok.hu) prim_ne (.x (px_lc [("one", 2)] ok.toKOk ND (psx_x (px_var (pv 1))) (by first | rfl | with_unfolding_all rfl | kernel_rfl) tgOk_nm (by decide) (fun s16 H16 C16 cl16 fp16 => (pgN 2 ND)) (fun s16 H16 C16 cl16 fp16 => (pts1 (ptx_not (ptx_val (px_call (f := 21) (ok.toKOk.blk s16 H16 _ C16 cl16 fp16) rfl G.f__law_is_pair (.x (px_var (pv 2)) rfl (.x (px_bin op_pow prim_pow (.x px_int rfl (.x px_int rfl .nil))) rfl (.x (px_bin op_pow prim_pow (.x px_int rfl (.x px_int rfl .nil))) rfl .nil)))))))) (fun s16 H16 C16 cl16 fp16 => px_int)) rfl (.x (px_lst .nil) rfl .nil))) (pwx_or1 (ptx_cmp (op_neAll ok.hu) prim_ne (.x (px_call (f := 27) ok.toKOk rfl G.f__law_sum (.x (px_var (pv 1)) rfl .nil)) rfl (.x (px_tup (.x (px_pr (ar_b (cr_sum ok.calm) rfl G.b_sum boot_sum (.x (px_lc [("before", 3), ("cost", 4)] ok.toKOk ND (psx_x (px_var (pv 0))) (by first | rfl | with_unfolding_all rfl | kernel_rfl) tgOk_tp (by decide) (fun s17 H17 C17 cl17 fp17 => (pg_tp (ok.toKOk.blk s17 H17 _ C17 cl17 fp17).calm (pgs_cons (pgN 3 ND) (pgs_cons (pgN 4 ND) pgs_nil)))) (fun s17 H17 C17 cl17 fp17 => pts_none) (fun s17 H17 C17 cl17 fp17 => (px_var (pv 4)))) rfl .nil)) prim_sum) rfl (.x px_int rfl .nil))) rfl .nil))))))
 (psts_cons (pst_ret (px_tup (.x px_bl rfl (.x (px_lst .nil) rfl .nil))))
 psts_nil)
 psts_nil)
 (psts_cons (pst_asgA ok rfl (px_lst .nil))
 (psts_cons (pst_for [4, 5, 6, 7, 8] ok (psx_rng2 rfl G.b_range (.x px_int rfl (.x (px_bin op_addAll prim_add (.x (px_pr (ar_b (call_len_seq) rfl G.b_len boot_len (.s (pv 0) rfl .nil)) prim_len) rfl (.x px_int rfl .nil))) rfl .nil))) (pgN 6 ND) tgOk_nm
 (psts_cons (pst_par2 ok rfl rfl (by decide) rfl rfl (.x (px_call (f := 24) ok.toKOk rfl G.f__law_branch (.x (px_var (pv 0)) rfl (.x (px_var (pv 6)) rfl .nil))) rfl (.x (px_tup (.x (px_call (f := 25) ok.toKOk rfl G.f__law_cost (.x (px_var (pv 0)) rfl (.x (px_var (pv 6)) rfl .nil))) rfl (.x px_int rfl .nil))) rfl .nil)) (by first | rfl | with_unfolding_all rfl | kernel_rfl))
 (psts_cons (pst_asgA ok rfl (px_call (f := 27) ok.toKOk rfl G.f__law_sum (.x (px_lc [("at", 9)] ok.toKOk ND (psx_slt (pv 7)) (by first | rfl | with_unfolding_all rfl | kernel_rfl) tgOk_nm (by decide) (fun s15 H15 C15 cl15 fp15 => (pgN 9 ND)) (fun s15 H15 C15 cl15 fp15 => pts_none) (fun s15 H15 C15 cl15 fp15 => (px_pr (ar_ix (ix_all (ok.toKOk.blk s15 H15 _ C15 cl15 fp15).hu) (.s (pv 1) rfl (.s (pv 9) rfl .nil)) (fun _ _ => rfl)) prim_ix))) rfl .nil)))
 (psts_cons (pst_if (ptx_val (px_call (f := 28) ok.toKOk rfl G.f__law_less (.x (px_var (pv 8)) rfl (.x (px_var (pv 4)) rfl .nil))))
 (psts_cons (pst_ret (px_tup (.x px_bl rfl (.x (px_lst .nil) rfl .nil))))
 psts_nil)
 psts_nil)
 (psts_cons (pst_asgA ok rfl (px_bin op_addAll prim_add (.s (pv 5) rfl (.x (px_ite (ptx_cmp (op_eqAll ok.hu) prim_eq (.s (pv 8) rfl (.s (pv 4) rfl .nil))) (px_lst (.x (px_var (pv 7)) rfl .nil)) (px_lst .nil)) rfl .nil))))
 psts_nil)))))
 (psts_cons (pst_ret (px_tup (.x px_bl rfl (.x (px_var (pv 5)) rfl .nil))))
 psts_nil))))
theorem t__law_right (G : Gx L) (ok : SOk (L.kx c ["tree", "even", "line", "branch", "at", "peaks", "place", "told", "own", "is_fair", "tight", "one", "other"] "_law_right" (defScope (top 40)) f cdv A outer s H E') n) : PSts (L.kx c ["tree", "even", "line", "branch", "at", "peaks", "place", "told", "own", "is_fair", "tight", "one", "other"] "_law_right" (defScope (top 40)) f cdv A outer s H E') [0, 1, 2, 3, 4, 5, 6, 7, 8, 9, 10, 11, 12] (defBody (top 40)) b__law_right :=
 have ND := ok.nd
 (psts_cons (pst_asgA ok rfl (px_bin op_mulAll prim_mul (.x (px_lst (.x (px_tup (.x px_int rfl (.x px_int rfl .nil))) rfl .nil)) rfl (.x (px_pr (ar_b (call_len_seq) rfl G.b_len boot_len (.s (pv 0) rfl .nil)) prim_len) rfl .nil))))
 (psts_cons (pst_for [2, 3, 4] ok (psx_rng1 rfl G.b_range (.x (px_pr (ar_b (call_len_seq) rfl G.b_len boot_len (.s (pv 0) rfl .nil)) prim_len) rfl .nil)) (pgN 2 ND) tgOk_nm
 (psts_cons (pst_asgA ok rfl (px_call (f := 24) ok.toKOk rfl G.f__law_branch (.x (px_var (pv 0)) rfl (.x (px_bin op_addAll prim_add (.s (pv 2) rfl (.x px_int rfl .nil))) rfl .nil))))
 (psts_cons (pst_for [4] ok (psx_x (px_var (pv 3))) (pgN 4 ND) tgOk_nm
 (psts_cons (pst_setix ok (pv 1) (px_var (pv 4)) (px_call (f := 19) ok.toKOk rfl G.f__law_add (.x (px_pr (ar_ix (ix_all ok.hu) (.s (pv 1) rfl (.s (pv 4) rfl .nil)) (fun _ _ => rfl)) prim_ix) rfl (.x (px_call (f := 18) ok.toKOk rfl G.f__law_low (.x (px_pr (ar_ix (ix_all ok.hu) (.x (px_pr (ar_ix (ix_all ok.hu) (.s (pv 0) rfl (.s (pv 2) rfl .nil)) (fun _ _ => rfl)) prim_ix) rfl (.x px_int rfl .nil)) (fun _ _ => rfl)) prim_ix) rfl (.x (px_pr (ar_b (call_len_seq) rfl G.b_len boot_len (.s (pv 3) rfl .nil)) prim_len) rfl .nil))) rfl .nil))))
 psts_nil))
 psts_nil)))
 (psts_cons (pst_asgA ok rfl (px_call (f := 20) ok.toKOk rfl G.f__law_order (.x (px_lc [("place", 6)] ok.toKOk ND (psx_rng2 rfl G.b_range (.x px_int rfl (.x (px_bin op_addAll prim_add (.x (px_pr (ar_b (call_len_seq) rfl G.b_len boot_len (.s (pv 0) rfl .nil)) prim_len) rfl (.x px_int rfl .nil))) rfl .nil))) (by first | rfl | with_unfolding_all rfl | kernel_rfl) tgOk_nm (by decide) (fun s19 H19 C19 cl19 fp19 => (pgN 6 ND)) (fun s19 H19 C19 cl19 fp19 => pts_none) (fun s19 H19 C19 cl19 fp19 => (px_call (f := 18) (ok.toKOk.blk s19 H19 _ C19 cl19 fp19) rfl G.f__law_low (.x (px_call (f := 25) (ok.toKOk.blk s19 H19 _ C19 cl19 fp19) rfl G.f__law_cost (.x (px_var (pv 0)) rfl (.x (px_var (pv 6)) rfl .nil))) rfl (.x (px_pr (ar_b (call_len_seq) rfl G.b_len boot_len (.x (px_call (f := 24) (ok.toKOk.blk s19 H19 _ C19 cl19 fp19) rfl G.f__law_branch (.x (px_var (pv 0)) rfl (.x (px_var (pv 6)) rfl .nil))) rfl .nil)) prim_len) rfl .nil))))) rfl .nil)))
 (psts_cons (pst_par2 ok rfl rfl (by decide) rfl rfl (.x (px_call (f := 11) ok.toKOk rfl G.f_least_peak (.x (px_var (pv 0)) rfl .nil)) rfl (.x (px_call (f := 12) ok.toKOk rfl G.f_levelled (.x (px_var (pv 0)) rfl .nil)) rfl .nil)) (by first | rfl | with_unfolding_all rfl | kernel_rfl))
 (psts_cons (pst_if (ptx_w (pwx_or (ptx_not (ptx_val (px_call (f := 17) ok.toKOk rfl G.f__law_like (.x (px_lst (.x (px_call (f := 9) ok.toKOk rfl G.f_even_amounts (.x (px_var (pv 0)) rfl .nil)) rfl (.x (px_var (pv 7)) rfl .nil))) rfl (.x (px_lst (.x (px_pr (ar_ty call_tuple_of rfl G.b_tuple boot_tuple (.s (pv 1) rfl .nil)) prim_tuple) rfl (.x (px_ite (ptx_cmp (op_neAll ok.hu) prim_ne (.s (pv 5) rfl (.x (px_lst .nil) rfl .nil))) (px_pr (ar_ix (ix_all ok.hu) (.s (pv 5) rfl (.x (px_pr (ar_un un_neg (.x px_int rfl .nil)) prim_neg) rfl .nil)) (fun _ _ => rfl)) prim_ix) px_non) rfl .nil))) rfl .nil))))) (pwx_or (ptx_cmp (op_neAll ok.hu) prim_ne (.x (px_call (f := 16) ok.toKOk rfl G.f__law_sort (.x (px_var (pv 8)) rfl .nil)) rfl (.x px_int rfl .nil))) (pwx_or1 (ptx_cmp (op_neAll ok.hu) prim_ne (.x (px_pr (ar_b (call_len_seq) rfl G.b_len boot_len (.s (pv 8) rfl .nil)) prim_len) rfl (.x (px_pr (ar_b (call_len_seq) rfl G.b_len boot_len (.s (pv 0) rfl .nil)) prim_len) rfl .nil)))))))
 (psts_cons (pst_ret px_bl)
 psts_nil)
 psts_nil)
 (psts_cons (pst_unp (px_call (f := 29) ok.toKOk rfl G.f__law_are_fair (.x (px_var (pv 0)) rfl (.x (px_var (pv 8)) rfl .nil))) (pg_tp ok.calm (pgs_cons (pgN 9 ND) (pgs_cons (pgN 10 ND) pgs_nil))) tgOk_tp)
 (psts_cons (pst_if (ptx_w (pwx_or (ptx_not (ptx_val (px_var (pv 9)))) (pwx_or (ptx_not (ptx_val (px_pr (ar_ix (ix_all ok.hu) (.x (px_call (f := 29) ok.toKOk rfl G.f__law_are_fair (.x (px_var (pv 0)) rfl (.x (px_pr (ar_ty call_tuple_of rfl G.b_tuple boot_tuple (.s (pv 1) rfl .nil)) prim_tuple) rfl .nil))) rfl (.x px_int rfl .nil)) (fun _ _ => rfl)) prim_ix))) (pwx_or1 (ptx_w (pwx_and (ptx_cmp (op_neAll ok.hu) prim_ne (.s (pv 5) rfl (.x (px_lst .nil) rfl .nil))) (pwx_and1 (ptx_cmp (op_neAll ok.hu) prim_ne (.x (px_pr (ar_ix (ix_all ok.hu) (.x (px_call (f := 20) ok.toKOk rfl G.f__law_order (.x (px_pr (ar_ty call_list_of rfl G.b_list boot_list (.s (pv 8) rfl .nil)) prim_list) rfl .nil)) rfl (.x (px_pr (ar_un un_neg (.x px_int rfl .nil)) prim_neg) rfl .nil)) (fun _ _ => rfl)) prim_ix) rfl (.x (px_pr (ar_ix (ix_all ok.hu) (.s (pv 5) rfl (.x (px_pr (ar_un un_neg (.x px_int rfl .nil)) prim_neg) rfl .nil)) (fun _ _ => rfl)) prim_ix) rfl .nil))))))))))
 (psts_cons (pst_ret px_bl)
 psts_nil)
 psts_nil)
 (psts_cons (pst_for [11, 12] ok (psx_rng1 rfl G.b_range (.x (px_pr (ar_b (call_len_seq) rfl G.b_len boot_len (.s (pv 0) rfl .nil)) prim_len) rfl .nil)) (pgN 11 ND) tgOk_nm
 (psts_cons (pst_for [12] ok (psx_rng1 rfl G.b_range (.x (px_pr (ar_b (call_len_seq) rfl G.b_len boot_len (.s (pv 0) rfl .nil)) prim_len) rfl .nil)) (pgN 12 ND) tgOk_nm
 (psts_cons (pst_if (ptx_w (pwx_and (ptx_val (px_call (f := 28) ok.toKOk rfl G.f__law_less (.x (px_pr (ar_ix (ix_all ok.hu) (.s (pv 8) rfl (.s (pv 12) rfl .nil)) (fun _ _ => rfl)) prim_ix) rfl (.x (px_pr (ar_ix (ix_all ok.hu) (.s (pv 8) rfl (.s (pv 11) rfl .nil)) (fun _ _ => rfl)) prim_ix) rfl .nil)))) (pwx_and1 (ptx_cmp (op_eqAll ok.hu) prim_eq (.x (px_lc [("branch", 3)] ok.toKOk ND (psx_slt (pv 10)) (by first | rfl | with_unfolding_all rfl | kernel_rfl) tgOk_nm (by decide) (fun s18 H18 C18 cl18 fp18 => (pgN 3 ND)) (fun s18 H18 C18 cl18 fp18 => (pts1 (ptx_w (pwx_and (ptx_cmp (op_inAll (ok.toKOk.blk s18 H18 _ C18 cl18 fp18).hu) prim_isin (.s (pv 11) rfl (.s (pv 3) rfl .nil))) (pwx_and1 (ptx_cmp (op_notInAll (ok.toKOk.blk s18 H18 _ C18 cl18 fp18).hu) prim_notin (.s (pv 12) rfl (.s (pv 3) rfl .nil)))))))) (fun s18 H18 C18 cl18 fp18 => (px_var (pv 3)))) rfl (.x (px_lst .nil) rfl .nil))))))
 (psts_cons (pst_ret px_bl)
 psts_nil)
 psts_nil)
 psts_nil))
 psts_nil))
 (psts_cons (pst_ret px_bl)
 psts_nil)))))))))
theorem t_law (G : Gx L) (hh : c.hnd = prg.hnd) (hcd : cdv = .ref (He.cT L.K ("law", none)).1) (ok : SOk (L.kx c ["script", "cup", "turn", "tree", "told", "due", "words", "odd", "call", "rising", "falling", "at", "mean", "before", "cost"] "law" (defScope (top 41)) f cdv A outer s H E') n) : PSts (L.kx c ["script", "cup", "turn", "tree", "told", "due", "words", "odd", "call", "rising", "falling", "at", "mean", "before", "cost"] "law" (defScope (top 41)) f cdv A outer s H E') [0, 1, 2, 3, 4, 5, 6, 7, 8, 9, 10, 11, 12, 13, 14] (defBody (top 41)) b_law := by
 have ND := ok.nd
 obtain ⟨fd__law_error, F__law_error⟩ := G.d__law_error
 have kp__law_error := F__law_error.kp
 have bd0__law_error : Binds L.K fd__law_error ["call"] [] := F__law_error.bindsN fun _ _ _ _ _ _ us hl => match us, hl with | [_], _ => rfl
 obtain ⟨oc, od, dV, kV, doc, pm, an, cdv__law_error, ct, osl, rfl, lk__law_error, hcg__law_error, _, _⟩ := F__law_error.ex
 have bd__law_error := bd0__law_error
 exact (psts_cons (pst_asgA ok rfl (px_call (f := 13) ok.toKOk rfl G.f__law_cup (.x (px_var (pv 0)) rfl .nil)))
 (psts_cons (pst_for [2] ok (psx_rng1 rfl G.b_range (.x px_int rfl .nil)) (pgN 2 ND) tgOk_nm
 (psts_cons (pst_if (ptx_not (ptx_val (px_call (f := 30) ok.toKOk rfl G.f__law_right (.x (px_call (f := 22) ok.toKOk rfl G.f__law_tree (.s (pv 1) rfl (.x (px_call (f := 14) ok.toKOk rfl G.f__law_roll (.s (pv 1) rfl (.x px_int rfl .nil))) rfl (.x px_int rfl .nil)))) rfl .nil))))
 (psts_cons (pst_ret px_bl)
 psts_nil)
 psts_nil)
 psts_nil))
 (psts_cons (pst_asgA ok rfl (px_tup (.x (px_tup (.x px_int rfl (.x px_int rfl .nil))) rfl (.x (px_tup (.x px_int rfl (.x px_int rfl .nil))) rfl (.x (px_tup (.x px_int rfl (.x px_int rfl .nil))) rfl (.x (px_tup (.x px_int rfl (.x px_int rfl .nil))) rfl .nil))))))
 (psts_cons (pst_asgA ok rfl (px_lst (.x (px_call (f := 9) ok.toKOk rfl G.f_even_amounts (.x (px_var (pv 3)) rfl .nil)) rfl (.x (px_call (f := 11) ok.toKOk rfl G.f_least_peak (.x (px_var (pv 3)) rfl .nil)) rfl (.x (px_call (f := 12) ok.toKOk rfl G.f_levelled (.x (px_var (pv 3)) rfl .nil)) rfl (.x (px_call (f := 12) ok.toKOk rfl G.f_levelled (.x (px_tup .nil) rfl .nil)) rfl (.x (px_call (f := 11) ok.toKOk rfl G.f_least_peak (.x (px_tup .nil) rfl .nil)) rfl (.x (px_call (f := 9) ok.toKOk rfl G.f_even_amounts (.x (px_tup .nil) rfl .nil)) rfl .nil))))))))
 (psts_cons (pst_if (ptx_not (ptx_val (px_call (f := 17) ok.toKOk rfl G.f__law_like (.x (px_var (pv 4)) rfl (.x (px_lst (.x (px_tup (.x (px_tup (.x px_int rfl (.x px_int rfl .nil))) rfl (.x (px_tup (.x px_int rfl (.x px_int rfl .nil))) rfl (.x (px_tup (.x px_int rfl (.x px_int rfl .nil))) rfl (.x (px_tup (.x px_int rfl (.x px_int rfl .nil))) rfl .nil))))) rfl (.x (px_tup (.x px_int rfl (.x px_int rfl .nil))) rfl (.x (px_tup (.x (px_tup (.x px_int rfl (.x px_int rfl .nil))) rfl (.x (px_tup (.x px_int rfl (.x px_int rfl .nil))) rfl (.x (px_tup (.x px_int rfl (.x px_int rfl .nil))) rfl (.x (px_tup (.x px_int rfl (.x px_int rfl .nil))) rfl .nil))))) rfl (.x (px_tup .nil) rfl (.x px_non rfl (.x (px_tup .nil) rfl .nil))))))) rfl .nil)))))
 (psts_cons (pst_ret px_bl)
 psts_nil)
 psts_nil)
 (psts_cons (pst_asgA ok rfl (px_lst (.x (px_call (f := 12) ok.toKOk rfl G.f_levelled (.x (px_tup (.x (px_tup (.x px_int rfl (.x px_int rfl .nil))) rfl (.x (px_tup (.x px_int rfl (.x px_int rfl .nil))) rfl .nil))) rfl .nil)) rfl (.x (px_call (f := 12) ok.toKOk rfl G.f_levelled (.x (px_tup (.x (px_tup (.x px_int rfl (.x px_int rfl .nil))) rfl (.x (px_tup (.x px_int rfl (.x px_int rfl .nil))) rfl .nil))) rfl .nil)) rfl (.x (px_call (f := 12) ok.toKOk rfl G.f_levelled (.x (px_tup (.x (px_tup (.x px_int rfl (.x px_int rfl .nil))) rfl (.x (px_tup (.x px_int rfl (.x px_int rfl .nil))) rfl .nil))) rfl .nil)) rfl (.x (px_call (f := 12) ok.toKOk rfl G.f_levelled (.x (px_tup (.x (px_tup (.x px_int rfl (.x px_int rfl .nil))) rfl (.x (px_tup (.x px_int rfl (.x px_int rfl .nil))) rfl (.x (px_tup (.x px_int rfl (.x px_int rfl .nil))) rfl (.x (px_tup (.x px_int rfl (.x px_int rfl .nil))) rfl .nil))))) rfl .nil)) rfl (.x (px_call (f := 11) ok.toKOk rfl G.f_least_peak (.x (px_tup (.x (px_tup (.x px_int rfl (.x px_int rfl .nil))) rfl (.x (px_tup (.x px_int rfl (.x px_int rfl .nil))) rfl (.x (px_tup (.x px_int rfl (.x px_int rfl .nil))) rfl .nil)))) rfl .nil)) rfl .nil)))))))
 (psts_cons (pst_asgA ok rfl (px_lst (.x (px_tup (.x (px_tup (.x px_int rfl (.x px_int rfl .nil))) rfl (.x (px_tup (.x px_int rfl (.x px_int rfl .nil))) rfl .nil))) rfl (.x (px_tup (.x (px_tup (.x px_int rfl (.x px_int rfl .nil))) rfl (.x (px_tup (.x px_int rfl (.x px_int rfl .nil))) rfl .nil))) rfl (.x (px_tup (.x (px_tup (.x px_int rfl (.x px_int rfl .nil))) rfl (.x (px_tup (.x px_int rfl (.x px_int rfl .nil))) rfl .nil))) rfl (.x (px_tup (.x (px_tup (.x px_int rfl (.x px_int rfl .nil))) rfl (.x (px_tup (.x px_int rfl (.x px_int rfl .nil))) rfl (.x (px_tup (.x px_int rfl (.x px_int rfl .nil))) rfl (.x (px_tup (.x px_int rfl (.x px_int rfl .nil))) rfl .nil))))) rfl (.x (px_tup (.x px_int rfl (.x px_int rfl .nil))) rfl .nil)))))))
 (psts_cons (pst_if (ptx_not (ptx_val (px_call (f := 17) ok.toKOk rfl G.f__law_like (.x (px_var (pv 4)) rfl (.x (px_var (pv 5)) rfl .nil)))))
 (psts_cons (pst_ret px_bl)
 psts_nil)
 psts_nil)
 (psts_cons (pst_asgA ok rfl (px_lst .nil))
 (psts_cons (pst_for [6, 7] ok (psx_x (px_tup (.x px_non rfl (.x (px_lst (.x (px_tup (.x px_int rfl (.x px_int rfl .nil))) rfl .nil)) rfl (.x (px_tup (.x (px_tup (.x px_int rfl (.x px_int rfl .nil))) rfl .nil)) rfl (.x (px_tup (.x (px_tup (.x px_int rfl (.x (px_pr (ar_un un_neg (.x px_int rfl .nil)) prim_neg) rfl .nil))) rfl .nil)) rfl (.x (px_tup (.x (px_tup (.x px_int rfl (.x px_bl rfl .nil))) rfl .nil)) rfl (.x (px_bin op_mulAll prim_mul (.x (px_tup (.x (px_tup (.x px_int rfl (.x px_int rfl .nil))) rfl .nil)) rfl (.x px_int rfl .nil))) rfl (.x px_int rfl .nil))))))))) (pgN 7 ND) tgOk_nm
 (psts_cons (pst_asgA ok rfl (px_bin op_addAll prim_add (.s (pv 6) rfl (.x (px_lc [("call", 8)] ok.toKOk ND (psx_x (px_tup (.x (px_fnv (f := 9) rfl G.f_even_amounts) rfl (.x (px_fnv (f := 11) rfl G.f_least_peak) rfl (.x (px_fnv (f := 12) rfl G.f_levelled) rfl .nil))))) (by first | rfl | with_unfolding_all rfl | kernel_rfl) tgOk_nm (by decide) (fun s24 H24 C24 cl24 fp24 => (pgN 8 ND)) (fun s24 H24 C24 cl24 fp24 => pts_none) (fun s24 H24 C24 cl24 fp24 => (px_tried (m := 2) (sl := 5) (W := [2, 3, 4]) (Sn := S__law_error) (fi := 26) (ok.toKOk.blk s24 H24 _ C24 cl24 fp24) (ok.tok.blk s24 H24 _ C24 cl24 fp24) rfl G.f__law_error kp__law_error lk__law_error hcg__law_error bd__law_error (sc__law_error) (by rfl) (Or.inl rfl) (by rfl) (by rfl) (by decide) (givesS nd__law_error (by rfl) (by rfl) (by rfl) (by decide) G.c_PowerError (fun s0 H0 ad oe q pn hq hz hf => su__law_error G ok.toKOk.u100 hq hz hf)) (tr0__law_error hh) (tr1__law_error G hh) G.tb_law hcd G.m_law G.u_law (lamS_by (by first | rfl | kernel_rfl)) (by rfl) (fun _ _ _ _ _ => rfl) (fun A25 outer25 s25 H25 E25 f25 c25 okl25 => (px_callv (i := 8) okl25 rfl (by first | exact Or.inl rfl | exact Or.inr (Or.inl rfl) | exact Or.inr (Or.inr rfl)) (.x (px_var (pv 7)) rfl .nil)))))) rfl .nil))))
 psts_nil))
 (psts_cons (pst_if (ptx_cmp (op_neAll ok.hu) prim_ne (.s (pv 6) rfl (.x (px_bin op_mulAll prim_mul (.x (px_lst (.x px_str rfl .nil)) rfl (.x px_int rfl .nil))) rfl .nil)))
 (psts_cons (pst_ret px_bl)
 psts_nil)
 psts_nil)
 (psts_cons (pst_par2 ok rfl rfl (by decide) rfl rfl (.x (px_pr (ar_ty call_tuple_of rfl G.b_tuple boot_tuple (.x (px_lc [("at", 11)] ok.toKOk ND (psx_rng1 rfl G.b_range (.x px_int rfl .nil)) (by first | rfl | with_unfolding_all rfl | kernel_rfl) tgOk_nm (by decide) (fun s23 H23 C23 cl23 fp23 => (pgN 11 ND)) (fun s23 H23 C23 cl23 fp23 => pts_none) (fun s23 H23 C23 cl23 fp23 => (px_tup (.x (px_var (pv 11)) rfl (.x (px_bin op_addAll prim_add (.x (px_bin op_sub prim_sub (.x (px_bin op_pow prim_pow (.x px_int rfl (.x px_int rfl .nil))) rfl (.x px_int rfl .nil))) rfl (.s (pv 11) rfl .nil))) rfl .nil))))) rfl .nil)) prim_tuple) rfl (.x (px_pr (ar_ty call_tuple_of rfl G.b_tuple boot_tuple (.x (px_lc [("at", 11)] ok.toKOk ND (psx_rng1 rfl G.b_range (.x px_int rfl .nil)) (by first | rfl | with_unfolding_all rfl | kernel_rfl) tgOk_nm (by decide) (fun s22 H22 C22 cl22 fp22 => (pgN 11 ND)) (fun s22 H22 C22 cl22 fp22 => pts_none) (fun s22 H22 C22 cl22 fp22 => (px_tup (.x (px_var (pv 11)) rfl (.x (px_bin op_sub prim_sub (.x (px_bin op_pow prim_pow (.x px_int rfl (.x px_int rfl .nil))) rfl (.s (pv 11) rfl .nil))) rfl .nil))))) rfl .nil)) prim_tuple) rfl .nil)) (by first | rfl | with_unfolding_all rfl | kernel_rfl))
 (psts_cons (pst_asgA ok rfl (px_call (f := 18) ok.toKOk rfl G.f__law_low (.x (px_pr (ar_b (cr_sum ok.calm) rfl G.b_sum boot_sum (.x (px_lc [("before", 13), ("cost", 14)] ok.toKOk ND (psx_slt (pv 10)) (by first | rfl | with_unfolding_all rfl | kernel_rfl) tgOk_tp (by decide) (fun s21 H21 C21 cl21 fp21 => (pg_tp (ok.toKOk.blk s21 H21 _ C21 cl21 fp21).calm (pgs_cons (pgN 13 ND) (pgs_cons (pgN 14 ND) pgs_nil)))) (fun s21 H21 C21 cl21 fp21 => pts_none) (fun s21 H21 C21 cl21 fp21 => (px_var (pv 14)))) rfl .nil)) prim_sum) rfl (.x px_int rfl .nil))))
 (psts_cons (pst_asgA ok rfl (px_lst (.x (px_call (f := 12) ok.toKOk rfl G.f_levelled (.x (px_var (pv 9)) rfl .nil)) rfl (.x (px_call (f := 12) ok.toKOk rfl G.f_levelled (.x (px_var (pv 10)) rfl .nil)) rfl .nil))))
 (psts_cons (pst_if (ptx_not (ptx_val (px_call (f := 17) ok.toKOk rfl G.f__law_like (.x (px_var (pv 4)) rfl (.x (px_lst (.x (px_pr (ar_ty call_tuple_of rfl G.b_tuple boot_tuple (.x (px_lc [("at", 11)] ok.toKOk ND (psx_rng1 rfl G.b_range (.x px_int rfl .nil)) (by first | rfl | with_unfolding_all rfl | kernel_rfl) tgOk_nm (by decide) (fun s20 H20 C20 cl20 fp20 => (pgN 11 ND)) (fun s20 H20 C20 cl20 fp20 => pts_none) (fun s20 H20 C20 cl20 fp20 => (px_tup (.x (px_bin op_addAll prim_add (.x (px_bin op_sub prim_sub (.x (px_bin op_pow prim_pow (.x px_int rfl (.x px_int rfl .nil))) rfl (.x px_int rfl .nil))) rfl (.s (pv 11) rfl .nil))) rfl (.x px_int rfl .nil))))) rfl .nil)) prim_tuple) rfl (.x (px_bin op_mulAll prim_mul (.x (px_tup (.x (px_var (pv 12)) rfl .nil)) rfl (.x px_int rfl .nil))) rfl .nil))) rfl .nil)))))
 (psts_cons (pst_ret px_bl)
 psts_nil)
 psts_nil)
 (psts_cons (pst_ret (px_or (px_cmp op_gt prim_gt (.x (px_call (f := 14) ok.toKOk rfl G.f__law_roll (.s (pv 1) rfl (.x px_int rfl .nil))) rfl (.x px_int rfl .nil))) (px_or1 (px_call (f := 30) ok.toKOk rfl G.f__law_right (.x (px_call (f := 22) ok.toKOk rfl G.f__law_tree (.s (pv 1) rfl (.x px_int rfl (.x (px_bin op_pow prim_pow (.x px_int rfl (.x px_int rfl .nil))) rfl .nil)))) rfl .nil)))))
 psts_nil))))))))))))))))

end P72
end
section
set_option linter.all false
set_option maxRecDepth 100000
set_option maxHeartbeats 0
namespace P72
open PySem PySem.W L2 PySem.Spec PyProof.Rows RZ LamX EV
abbrev R : PySem.W.OpenRow := PySem.W.OpenLaw.row PySem.Challenge.rw_currentkept_k72_whole_levelled_amounts
def dd (x : Str) (i : Nat) : He.DefD := ⟨(x, none), x, x, defArgs (top i), defBody (top i), defScope (top i), [], []⟩
def cN : List Str := ["PowerError", "InvalidTree"]
def lamd : List Str := ["law"]
def fn : List He.DefD := [dd "is_whole" 5, dd "is_tuple_of" 6, dd "in_lowest" 8, dd "sum_of" 9, dd "compared" 10, dd "is_tree" 14, dd "need_tree" 15, dd "branches" 16, dd "costs_in" 17, dd "even_amounts" 18, dd "greatest" 19, dd "least_peak" 20, dd "levelled" 21, dd "_law_cup" 23, dd "_law_roll" 24, dd "_law_some" 25, dd "_law_sort" 26, dd "_law_like" 27, dd "_law_low" 28, dd "_law_add" 29, dd "_law_order" 30, dd "_law_is_pair" 31, dd "_law_tree" 32, dd "_law_way" 33, dd "_law_branch" 34, dd "_law_cost" 35, dd "_law_error" 36, dd "_law_sum" 37, dd "_law_less" 38, dd "_law_are_fair" 39, dd "_law_right" 40, dd "law" 41]
def fa : List He.Fa := [.glo "is_whole", .glo "is_tuple_of", .glo "in_lowest", .glo "sum_of", .glo "compared", .glo "is_tree", .glo "need_tree", .glo "branches", .glo "costs_in", .glo "even_amounts", .glo "greatest", .glo "least_peak", .glo "levelled", .glo "_law_cup", .glo "_law_roll", .glo "_law_some", .glo "_law_sort", .glo "_law_like", .glo "_law_low", .glo "_law_add", .glo "_law_order", .glo "_law_is_pair", .glo "_law_tree", .glo "_law_way", .glo "_law_branch", .glo "_law_cost", .glo "_law_error", .glo "_law_sum", .glo "_law_less", .glo "_law_are_fair", .glo "_law_right", .glo "law", .glo "PowerError", .glo "InvalidTree", .exc "InvalidTree", .free "ValueError", .free "abs", .free "all", .free "bool", .free "enumerate", .free "int", .free "isinstance", .free "len", .free "list", .free "max", .free "range", .free "sorted", .free "str", .free "sum", .free "tuple", .free "zip", .int "PLACES" (30), .int "COST" (1000000)]
def tf : List He.Defn := [("law", none)]
def ex : PySem.W.Frag → Bool := fun K => exAll cN isB lamd K && He.eqO (PySem.W.nsIn K mainGlobals "gcd") (some (some (.builtin "math.gcd")))
theorem exL {K : PySem.W.Frag} (h : ex K = true) : exAll cN isB lamd K = true := (Bool.and_eq_true_iff.1 h).1
theorem exG {K : PySem.W.Frag} (h : ex K = true) : He.eqO (PySem.W.nsIn K mainGlobals "gcd") (some (some (.builtin "math.gcd"))) = true := (Bool.and_eq_true_iff.1 h).2
def nm0 : List Str := ["gcd", "PowerError", "InvalidTree", "is_whole", "is_tuple_of", "in_lowest", "sum_of", "compared", "PLACES", "COST", "is_tree", "need_tree"]
def nm1 : List Str := ["branches", "costs_in", "even_amounts", "greatest", "least_peak", "levelled", "_law_cup", "_law_roll", "_law_some", "_law_sort", "_law_like", "_law_low"]
def nm2 : List Str := ["_law_add", "_law_order", "_law_is_pair", "_law_tree", "_law_way", "_law_branch", "_law_cost", "_law_error", "_law_sum", "_law_less", "_law_are_fair", "_law_right"]
def names : List Str := nm0 ++ nm1 ++ nm2
abbrev hk : PySem.W.Hook := He.hookX 5 fa fn [] tf ex
def ob (s : PySem.W.SharedT) : He.AlX := He.obsX 5 fa fn [] tf ex (HandSHeadRun.getT s)
theorem ob_eq (s : PySem.W.SharedT) : ob s = hk.obs s.abs := He.obsX_eq (HandSHeadRun.getT_eq s)
theorem run_ (w : World) : EV.RunB R (PySem.W.view R.prog [41]) hk ob 6000 8000 names w := by
  unfold EV.RunB
  kernel_rfl

end P72
end
section
set_option linter.all false
set_option maxRecDepth 100000
set_option maxHeartbeats 0
namespace P72
open PySem PySem.W L2 PySem.Spec PyProof.Rows RZ LamX EV
def dN : List Str := [("is_whole" : Str), ("is_tuple_of" : Str), ("in_lowest" : Str), ("sum_of" : Str), ("compared" : Str), ("is_tree" : Str), ("need_tree" : Str), ("branches" : Str), ("costs_in" : Str), ("even_amounts" : Str), ("greatest" : Str), ("least_peak" : Str), ("levelled" : Str), ("_law_cup" : Str), ("_law_roll" : Str), ("_law_some" : Str), ("_law_sort" : Str), ("_law_like" : Str), ("_law_low" : Str), ("_law_add" : Str), ("_law_order" : Str), ("_law_is_pair" : Str), ("_law_tree" : Str), ("_law_way" : Str), ("_law_branch" : Str), ("_law_cost" : Str), ("_law_error" : Str), ("_law_sum" : Str), ("_law_less" : Str), ("_law_are_fair" : Str), ("_law_right" : Str), ("law" : Str)]
abbrev Sy (w : World) (h : Heap) (K : PySem.W.Frag) : Prop := He.SaysX fa fn [] tf ex w h K
def LL (P : Program) (w : World) (K : PySem.W.Frag) (mg : Str → Option Value) (base : Heap) : Lw := ⟨P, w, K, mg, base, lamd.map fun d => ((He.cT K (d, none)).2, qL d), fun i => He.fAd K (dN.getD i "law", none), caOf cN K⟩
section
variable {P : Program} {w : World} {K : PySem.W.Frag} {mg : Str → Option Value} {base h : Heap}
theorem g_is_whole (c : Sy w h K) : ∃ fd, FunD K "is_whole" "is_whole" (defArgs (top 5)) (defBody (top 5)) (defScope (top 5)) [] [] (He.fAd K ("is_whole", none)) fd ∧ Binds K fd ["value", "low", "high"] [] := by
  obtain ⟨fd, F⟩ := c.t.d.def_ 0 (d := dd "is_whole" 5) rfl
  exact ⟨fd, F, FunD.bindsN F fun _ _ _ _ _ _ us hl => match us, hl with | [_, _, _], _ => rfl⟩
theorem g_is_tuple_of (c : Sy w h K) : ∃ fd, FunD K "is_tuple_of" "is_tuple_of" (defArgs (top 6)) (defBody (top 6)) (defScope (top 6)) [] [] (He.fAd K ("is_tuple_of", none)) fd ∧ Binds K fd ["value", "low", "high"] [] := by
  obtain ⟨fd, F⟩ := c.t.d.def_ 1 (d := dd "is_tuple_of" 6) rfl
  exact ⟨fd, F, FunD.bindsN F fun _ _ _ _ _ _ us hl => match us, hl with | [_, _, _], _ => rfl⟩
theorem g_in_lowest (c : Sy w h K) : ∃ fd, FunD K "in_lowest" "in_lowest" (defArgs (top 8)) (defBody (top 8)) (defScope (top 8)) [] [] (He.fAd K ("in_lowest", none)) fd ∧ Binds K fd ["top", "bottom"] [] := by
  obtain ⟨fd, F⟩ := c.t.d.def_ 2 (d := dd "in_lowest" 8) rfl
  exact ⟨fd, F, FunD.bindsN F fun _ _ _ _ _ _ us hl => match us, hl with | [_, _], _ => rfl⟩
theorem g_sum_of (c : Sy w h K) : ∃ fd, FunD K "sum_of" "sum_of" (defArgs (top 9)) (defBody (top 9)) (defScope (top 9)) [] [] (He.fAd K ("sum_of", none)) fd ∧ Binds K fd ["one", "other"] [] := by
  obtain ⟨fd, F⟩ := c.t.d.def_ 3 (d := dd "sum_of" 9) rfl
  exact ⟨fd, F, FunD.bindsN F fun _ _ _ _ _ _ us hl => match us, hl with | [_, _], _ => rfl⟩
theorem g_compared (c : Sy w h K) : ∃ fd, FunD K "compared" "compared" (defArgs (top 10)) (defBody (top 10)) (defScope (top 10)) [] [] (He.fAd K ("compared", none)) fd ∧ Binds K fd ["one", "other"] [] := by
  obtain ⟨fd, F⟩ := c.t.d.def_ 4 (d := dd "compared" 10) rfl
  exact ⟨fd, F, FunD.bindsN F fun _ _ _ _ _ _ us hl => match us, hl with | [_, _], _ => rfl⟩
theorem g_is_tree (c : Sy w h K) : ∃ fd, FunD K "is_tree" "is_tree" (defArgs (top 14)) (defBody (top 14)) (defScope (top 14)) [] [] (He.fAd K ("is_tree", none)) fd ∧ Binds K fd ["value"] [] := by
  obtain ⟨fd, F⟩ := c.t.d.def_ 5 (d := dd "is_tree" 14) rfl
  exact ⟨fd, F, FunD.bindsN F fun _ _ _ _ _ _ us hl => match us, hl with | [_], _ => rfl⟩
theorem g_need_tree (c : Sy w h K) : ∃ fd, FunD K "need_tree" "need_tree" (defArgs (top 15)) (defBody (top 15)) (defScope (top 15)) [] [] (He.fAd K ("need_tree", none)) fd ∧ Binds K fd ["value"] [] := by
  obtain ⟨fd, F⟩ := c.t.d.def_ 6 (d := dd "need_tree" 15) rfl
  exact ⟨fd, F, FunD.bindsN F fun _ _ _ _ _ _ us hl => match us, hl with | [_], _ => rfl⟩
theorem g_branches (c : Sy w h K) : ∃ fd, FunD K "branches" "branches" (defArgs (top 16)) (defBody (top 16)) (defScope (top 16)) [] [] (He.fAd K ("branches", none)) fd ∧ Binds K fd ["tree"] [] := by
  obtain ⟨fd, F⟩ := c.t.d.def_ 7 (d := dd "branches" 16) rfl
  exact ⟨fd, F, FunD.bindsN F fun _ _ _ _ _ _ us hl => match us, hl with | [_], _ => rfl⟩
theorem g_costs_in (c : Sy w h K) : ∃ fd, FunD K "costs_in" "costs_in" (defArgs (top 17)) (defBody (top 17)) (defScope (top 17)) [] [] (He.fAd K ("costs_in", none)) fd ∧ Binds K fd ["tree"] [] := by
  obtain ⟨fd, F⟩ := c.t.d.def_ 8 (d := dd "costs_in" 17) rfl
  exact ⟨fd, F, FunD.bindsN F fun _ _ _ _ _ _ us hl => match us, hl with | [_], _ => rfl⟩
theorem g_even_amounts (c : Sy w h K) : ∃ fd, FunD K "even_amounts" "even_amounts" (defArgs (top 18)) (defBody (top 18)) (defScope (top 18)) [] [] (He.fAd K ("even_amounts", none)) fd ∧ Binds K fd ["tree"] [] := by
  obtain ⟨fd, F⟩ := c.t.d.def_ 9 (d := dd "even_amounts" 18) rfl
  exact ⟨fd, F, FunD.bindsN F fun _ _ _ _ _ _ us hl => match us, hl with | [_], _ => rfl⟩
theorem g_greatest (c : Sy w h K) : ∃ fd, FunD K "greatest" "greatest" (defArgs (top 19)) (defBody (top 19)) (defScope (top 19)) [] [] (He.fAd K ("greatest", none)) fd ∧ Binds K fd ["pairs"] [] := by
  obtain ⟨fd, F⟩ := c.t.d.def_ 10 (d := dd "greatest" 19) rfl
  exact ⟨fd, F, FunD.bindsN F fun _ _ _ _ _ _ us hl => match us, hl with | [_], _ => rfl⟩
theorem g_least_peak (c : Sy w h K) : ∃ fd, FunD K "least_peak" "least_peak" (defArgs (top 20)) (defBody (top 20)) (defScope (top 20)) [] [] (He.fAd K ("least_peak", none)) fd ∧ Binds K fd ["tree"] [] := by
  obtain ⟨fd, F⟩ := c.t.d.def_ 11 (d := dd "least_peak" 20) rfl
  exact ⟨fd, F, FunD.bindsN F fun _ _ _ _ _ _ us hl => match us, hl with | [_], _ => rfl⟩
theorem g_levelled (c : Sy w h K) : ∃ fd, FunD K "levelled" "levelled" (defArgs (top 21)) (defBody (top 21)) (defScope (top 21)) [] [] (He.fAd K ("levelled", none)) fd ∧ Binds K fd ["tree"] [] := by
  obtain ⟨fd, F⟩ := c.t.d.def_ 12 (d := dd "levelled" 21) rfl
  exact ⟨fd, F, FunD.bindsN F fun _ _ _ _ _ _ us hl => match us, hl with | [_], _ => rfl⟩
theorem g__law_cup (c : Sy w h K) : ∃ fd, FunD K "_law_cup" "_law_cup" (defArgs (top 23)) (defBody (top 23)) (defScope (top 23)) [] [] (He.fAd K ("_law_cup", none)) fd ∧ Binds K fd ["script"] [] := by
  obtain ⟨fd, F⟩ := c.t.d.def_ 13 (d := dd "_law_cup" 23) rfl
  exact ⟨fd, F, FunD.bindsN F fun _ _ _ _ _ _ us hl => match us, hl with | [_], _ => rfl⟩
theorem g__law_roll (c : Sy w h K) : ∃ fd, FunD K "_law_roll" "_law_roll" (defArgs (top 24)) (defBody (top 24)) (defScope (top 24)) [] [] (He.fAd K ("_law_roll", none)) fd ∧ Binds K fd ["cup", "many"] [] := by
  obtain ⟨fd, F⟩ := c.t.d.def_ 14 (d := dd "_law_roll" 24) rfl
  exact ⟨fd, F, FunD.bindsN F fun _ _ _ _ _ _ us hl => match us, hl with | [_, _], _ => rfl⟩
theorem g__law_some (c : Sy w h K) : ∃ fd, FunD K "_law_some" "_law_some" (defArgs (top 25)) (defBody (top 25)) (defScope (top 25)) [] [] (He.fAd K ("_law_some", none)) fd ∧ Binds K fd ["cup", "things"] [] := by
  obtain ⟨fd, F⟩ := c.t.d.def_ 15 (d := dd "_law_some" 25) rfl
  exact ⟨fd, F, FunD.bindsN F fun _ _ _ _ _ _ us hl => match us, hl with | [_, _], _ => rfl⟩
theorem g__law_sort (c : Sy w h K) : ∃ fd, FunD K "_law_sort" "_law_sort" (defArgs (top 26)) (defBody (top 26)) (defScope (top 26)) [] [] (He.fAd K ("_law_sort", none)) fd ∧ Binds K fd ["value"] [] := by
  obtain ⟨fd, F⟩ := c.t.d.def_ 16 (d := dd "_law_sort" 26) rfl
  exact ⟨fd, F, FunD.bindsN F fun _ _ _ _ _ _ us hl => match us, hl with | [_], _ => rfl⟩
theorem g__law_like (c : Sy w h K) : ∃ fd, FunD K "_law_like" "_law_like" (defArgs (top 27)) (defBody (top 27)) (defScope (top 27)) [] [] (He.fAd K ("_law_like", none)) fd ∧ Binds K fd ["one", "other"] [] := by
  obtain ⟨fd, F⟩ := c.t.d.def_ 17 (d := dd "_law_like" 27) rfl
  exact ⟨fd, F, FunD.bindsN F fun _ _ _ _ _ _ us hl => match us, hl with | [_, _], _ => rfl⟩
theorem g__law_low (c : Sy w h K) : ∃ fd, FunD K "_law_low" "_law_low" (defArgs (top 28)) (defBody (top 28)) (defScope (top 28)) [] [] (He.fAd K ("_law_low", none)) fd ∧ Binds K fd ["top", "bottom"] [] := by
  obtain ⟨fd, F⟩ := c.t.d.def_ 18 (d := dd "_law_low" 28) rfl
  exact ⟨fd, F, FunD.bindsN F fun _ _ _ _ _ _ us hl => match us, hl with | [_, _], _ => rfl⟩
theorem g__law_add (c : Sy w h K) : ∃ fd, FunD K "_law_add" "_law_add" (defArgs (top 29)) (defBody (top 29)) (defScope (top 29)) [] [] (He.fAd K ("_law_add", none)) fd ∧ Binds K fd ["one", "other"] [] := by
  obtain ⟨fd, F⟩ := c.t.d.def_ 19 (d := dd "_law_add" 29) rfl
  exact ⟨fd, F, FunD.bindsN F fun _ _ _ _ _ _ us hl => match us, hl with | [_, _], _ => rfl⟩
theorem g__law_order (c : Sy w h K) : ∃ fd, FunD K "_law_order" "_law_order" (defArgs (top 30)) (defBody (top 30)) (defScope (top 30)) [] [] (He.fAd K ("_law_order", none)) fd ∧ Binds K fd ["pairs"] [] := by
  obtain ⟨fd, F⟩ := c.t.d.def_ 20 (d := dd "_law_order" 30) rfl
  exact ⟨fd, F, FunD.bindsN F fun _ _ _ _ _ _ us hl => match us, hl with | [_], _ => rfl⟩
theorem g__law_is_pair (c : Sy w h K) : ∃ fd, FunD K "_law_is_pair" "_law_is_pair" (defArgs (top 31)) (defBody (top 31)) (defScope (top 31)) [] [] (He.fAd K ("_law_is_pair", none)) fd ∧ Binds K fd ["value", "tops", "bottoms"] [] := by
  obtain ⟨fd, F⟩ := c.t.d.def_ 21 (d := dd "_law_is_pair" 31) rfl
  exact ⟨fd, F, FunD.bindsN F fun _ _ _ _ _ _ us hl => match us, hl with | [_, _, _], _ => rfl⟩
theorem g__law_tree (c : Sy w h K) : ∃ fd, FunD K "_law_tree" "_law_tree" (defArgs (top 32)) (defBody (top 32)) (defScope (top 32)) [] [] (He.fAd K ("_law_tree", none)) fd ∧ Binds K fd ["cup", "many", "cost"] [] := by
  obtain ⟨fd, F⟩ := c.t.d.def_ 22 (d := dd "_law_tree" 32) rfl
  exact ⟨fd, F, FunD.bindsN F fun _ _ _ _ _ _ us hl => match us, hl with | [_, _, _], _ => rfl⟩
theorem g__law_way (c : Sy w h K) : ∃ fd, FunD K "_law_way" "_law_way" (defArgs (top 33)) (defBody (top 33)) (defScope (top 33)) [] [] (He.fAd K ("_law_way", none)) fd ∧ Binds K fd ["tree", "place"] [] := by
  obtain ⟨fd, F⟩ := c.t.d.def_ 23 (d := dd "_law_way" 33) rfl
  exact ⟨fd, F, FunD.bindsN F fun _ _ _ _ _ _ us hl => match us, hl with | [_, _], _ => rfl⟩
theorem g__law_branch (c : Sy w h K) : ∃ fd, FunD K "_law_branch" "_law_branch" (defArgs (top 34)) (defBody (top 34)) (defScope (top 34)) [] [] (He.fAd K ("_law_branch", none)) fd ∧ Binds K fd ["tree", "place"] [] := by
  obtain ⟨fd, F⟩ := c.t.d.def_ 24 (d := dd "_law_branch" 34) rfl
  exact ⟨fd, F, FunD.bindsN F fun _ _ _ _ _ _ us hl => match us, hl with | [_, _], _ => rfl⟩
theorem g__law_cost (c : Sy w h K) : ∃ fd, FunD K "_law_cost" "_law_cost" (defArgs (top 35)) (defBody (top 35)) (defScope (top 35)) [] [] (He.fAd K ("_law_cost", none)) fd ∧ Binds K fd ["tree", "place"] [] := by
  obtain ⟨fd, F⟩ := c.t.d.def_ 25 (d := dd "_law_cost" 35) rfl
  exact ⟨fd, F, FunD.bindsN F fun _ _ _ _ _ _ us hl => match us, hl with | [_, _], _ => rfl⟩
theorem g__law_error (c : Sy w h K) : ∃ fd, FunD K "_law_error" "_law_error" (defArgs (top 36)) (defBody (top 36)) (defScope (top 36)) [] [] (He.fAd K ("_law_error", none)) fd ∧ Binds K fd ["call"] [] := by
  obtain ⟨fd, F⟩ := c.t.d.def_ 26 (d := dd "_law_error" 36) rfl
  exact ⟨fd, F, FunD.bindsN F fun _ _ _ _ _ _ us hl => match us, hl with | [_], _ => rfl⟩
theorem g__law_sum (c : Sy w h K) : ∃ fd, FunD K "_law_sum" "_law_sum" (defArgs (top 37)) (defBody (top 37)) (defScope (top 37)) [] [] (He.fAd K ("_law_sum", none)) fd ∧ Binds K fd ["pairs"] [] := by
  obtain ⟨fd, F⟩ := c.t.d.def_ 27 (d := dd "_law_sum" 37) rfl
  exact ⟨fd, F, FunD.bindsN F fun _ _ _ _ _ _ us hl => match us, hl with | [_], _ => rfl⟩
theorem g__law_less (c : Sy w h K) : ∃ fd, FunD K "_law_less" "_law_less" (defArgs (top 38)) (defBody (top 38)) (defScope (top 38)) [] [] (He.fAd K ("_law_less", none)) fd ∧ Binds K fd ["one", "other"] [] := by
  obtain ⟨fd, F⟩ := c.t.d.def_ 28 (d := dd "_law_less" 38) rfl
  exact ⟨fd, F, FunD.bindsN F fun _ _ _ _ _ _ us hl => match us, hl with | [_, _], _ => rfl⟩
theorem g__law_are_fair (c : Sy w h K) : ∃ fd, FunD K "_law_are_fair" "_law_are_fair" (defArgs (top 39)) (defBody (top 39)) (defScope (top 39)) [] [] (He.fAd K ("_law_are_fair", none)) fd ∧ Binds K fd ["tree", "amounts"] [] := by
  obtain ⟨fd, F⟩ := c.t.d.def_ 29 (d := dd "_law_are_fair" 39) rfl
  exact ⟨fd, F, FunD.bindsN F fun _ _ _ _ _ _ us hl => match us, hl with | [_, _], _ => rfl⟩
theorem g__law_right (c : Sy w h K) : ∃ fd, FunD K "_law_right" "_law_right" (defArgs (top 40)) (defBody (top 40)) (defScope (top 40)) [] [] (He.fAd K ("_law_right", none)) fd ∧ Binds K fd ["tree"] [] := by
  obtain ⟨fd, F⟩ := c.t.d.def_ 30 (d := dd "_law_right" 40) rfl
  exact ⟨fd, F, FunD.bindsN F fun _ _ _ _ _ _ us hl => match us, hl with | [_], _ => rfl⟩
theorem g_law (c : Sy w h K) : ∃ fd, FunD K "law" "law" (defArgs (top 41)) (defBody (top 41)) (defScope (top 41)) [] [] (He.fAd K ("law", none)) fd ∧ Binds K fd ["script"] [] := by
  obtain ⟨fd, F⟩ := c.t.d.def_ 31 (d := dd "law" 41) rfl
  exact ⟨fd, F, FunD.bindsN F fun _ _ _ _ _ _ us hl => match us, hl with | [_], _ => rfl⟩
theorem gx (X : K.In h) (G : h.Ns mainGlobals mg) (c : Sy w h K) (hT : ∀ d ∈ lamd, TabB base mg (He.cT K (d, none)).1 (He.cT K (d, none)).2) : Gx (LL P w K mg base) where
  b_abs := He.free_ok X G (c.t.d.fact 36 (f := .free "abs") rfl)
  b_all := He.free_ok X G (c.t.d.fact 37 (f := .free "all") rfl)
  b_bool := He.free_ok X G (c.t.d.fact 38 (f := .free "bool") rfl)
  b_enumerate := He.free_ok X G (c.t.d.fact 39 (f := .free "enumerate") rfl)
  b_int := He.free_ok X G (c.t.d.fact 40 (f := .free "int") rfl)
  b_isinstance := He.free_ok X G (c.t.d.fact 41 (f := .free "isinstance") rfl)
  b_len := He.free_ok X G (c.t.d.fact 42 (f := .free "len") rfl)
  b_list := He.free_ok X G (c.t.d.fact 43 (f := .free "list") rfl)
  b_max := He.free_ok X G (c.t.d.fact 44 (f := .free "max") rfl)
  b_range := He.free_ok X G (c.t.d.fact 45 (f := .free "range") rfl)
  b_sorted := He.free_ok X G (c.t.d.fact 46 (f := .free "sorted") rfl)
  b_str := He.free_ok X G (c.t.d.fact 47 (f := .free "str") rfl)
  b_sum := He.free_ok X G (c.t.d.fact 48 (f := .free "sum") rfl)
  b_tuple := He.free_ok X G (c.t.d.fact 49 (f := .free "tuple") rfl)
  b_zip := He.free_ok X G (c.t.d.fact 50 (f := .free "zip") rfl)
  g_gcd := PySem.W.mg_of X G (He.eqO_ok (exG c.more))
  f_is_whole := He.glo_ok X G (c.t.d.fact 0 (f := .glo "is_whole") rfl)
  f_is_tuple_of := He.glo_ok X G (c.t.d.fact 1 (f := .glo "is_tuple_of") rfl)
  f_in_lowest := He.glo_ok X G (c.t.d.fact 2 (f := .glo "in_lowest") rfl)
  f_sum_of := He.glo_ok X G (c.t.d.fact 3 (f := .glo "sum_of") rfl)
  f_compared := He.glo_ok X G (c.t.d.fact 4 (f := .glo "compared") rfl)
  f_is_tree := He.glo_ok X G (c.t.d.fact 5 (f := .glo "is_tree") rfl)
  f_need_tree := He.glo_ok X G (c.t.d.fact 6 (f := .glo "need_tree") rfl)
  f_branches := He.glo_ok X G (c.t.d.fact 7 (f := .glo "branches") rfl)
  f_costs_in := He.glo_ok X G (c.t.d.fact 8 (f := .glo "costs_in") rfl)
  f_even_amounts := He.glo_ok X G (c.t.d.fact 9 (f := .glo "even_amounts") rfl)
  f_greatest := He.glo_ok X G (c.t.d.fact 10 (f := .glo "greatest") rfl)
  f_least_peak := He.glo_ok X G (c.t.d.fact 11 (f := .glo "least_peak") rfl)
  f_levelled := He.glo_ok X G (c.t.d.fact 12 (f := .glo "levelled") rfl)
  f__law_cup := He.glo_ok X G (c.t.d.fact 13 (f := .glo "_law_cup") rfl)
  f__law_roll := He.glo_ok X G (c.t.d.fact 14 (f := .glo "_law_roll") rfl)
  f__law_some := He.glo_ok X G (c.t.d.fact 15 (f := .glo "_law_some") rfl)
  f__law_sort := He.glo_ok X G (c.t.d.fact 16 (f := .glo "_law_sort") rfl)
  f__law_like := He.glo_ok X G (c.t.d.fact 17 (f := .glo "_law_like") rfl)
  f__law_low := He.glo_ok X G (c.t.d.fact 18 (f := .glo "_law_low") rfl)
  f__law_add := He.glo_ok X G (c.t.d.fact 19 (f := .glo "_law_add") rfl)
  f__law_order := He.glo_ok X G (c.t.d.fact 20 (f := .glo "_law_order") rfl)
  f__law_is_pair := He.glo_ok X G (c.t.d.fact 21 (f := .glo "_law_is_pair") rfl)
  f__law_tree := He.glo_ok X G (c.t.d.fact 22 (f := .glo "_law_tree") rfl)
  f__law_way := He.glo_ok X G (c.t.d.fact 23 (f := .glo "_law_way") rfl)
  f__law_branch := He.glo_ok X G (c.t.d.fact 24 (f := .glo "_law_branch") rfl)
  f__law_cost := He.glo_ok X G (c.t.d.fact 25 (f := .glo "_law_cost") rfl)
  f__law_error := He.glo_ok X G (c.t.d.fact 26 (f := .glo "_law_error") rfl)
  f__law_sum := He.glo_ok X G (c.t.d.fact 27 (f := .glo "_law_sum") rfl)
  f__law_less := He.glo_ok X G (c.t.d.fact 28 (f := .glo "_law_less") rfl)
  f__law_are_fair := He.glo_ok X G (c.t.d.fact 29 (f := .glo "_law_are_fair") rfl)
  f__law_right := He.glo_ok X G (c.t.d.fact 30 (f := .glo "_law_right") rfl)
  f_law := He.glo_ok X G (c.t.d.fact 31 (f := .glo "law") rfl)
  i_PLACES := He.int_ok X G (c.t.d.fact 51 (f := .int "PLACES" (30)) rfl)
  i_COST := He.int_ok X G (c.t.d.fact 52 (f := .int "COST" (1000000)) rfl)
  c_PowerError := He.glo_ok X G (c.t.d.fact 32 (f := .glo "PowerError") rfl)
  c_InvalidTree := He.glo_ok X G (c.t.d.fact 33 (f := .glo "InvalidTree") rfl)
  e_InvalidTree := (He.exc_ok (c.t.d.fact 34 (f := .exc "InvalidTree") rfl)).1
  k_InvalidTree := (He.exc_ok (c.t.d.fact 34 (f := .exc "InvalidTree") rfl)).2.1
  s_InvalidTree := (He.exc_ok (c.t.d.fact 34 (f := .exc "InvalidTree") rfl)).2.2.1
  t_InvalidTree := (He.exc_ok (c.t.d.fact 34 (f := .exc "InvalidTree") rfl)).2.2.2
  xc := fun q hq => (exAll_c (cn := cN) (isB := isB) (lamd := lamd) (exL c.more) q hq).1
  ki := fun q j hq hj => (exAll_c (cn := cN) (isB := isB) (lamd := lamd) (exL c.more) q hq).2.2 j hj
  ex := fun q hq => (exAll_c (cn := cN) (isB := isB) (lamd := lamd) (exL c.more) q hq).2.1
  tb_law := hT "law" (by decide)
  m_law := List.mem_map.mpr ⟨"law", by decide, rfl⟩
  u_law := exAll_u (cn := cN) (isB := isB) (lamd := lamd) (exL c.more) (by decide)
  d__law_error := let ⟨fd, F, _⟩ := g__law_error c; ⟨fd, F⟩
theorem x_is_whole (c : Sy w h K) : DefTx (LL P w K mg base) 0 d_is_whole ["value", "low", "high"] ["value", "low", "high"] "is_whole" (defArgs (top 5)) (defBody (top 5)) (defScope (top 5)) [0, 1, 2] :=
  ⟨g_is_whole c, ⟨rfl, rfl, rfl, by decide +kernel, rfl, by decide +kernel, by decide +kernel⟩, rfl, rfl, by decide⟩
theorem y_is_whole (G : Gx (LL P w K mg base)) : BodyOk (LL P w K mg base) prg 0 d_is_whole ["value", "low", "high"] "is_whole" (defBody (top 5)) (defScope (top 5)) [0, 1, 2] :=
  fun n f cdv A outer s H E' hf hc ok => t_is_whole G ok
theorem x_is_tuple_of (c : Sy w h K) : DefTx (LL P w K mg base) 1 d_is_tuple_of ["value", "low", "high"] ["value", "low", "high"] "is_tuple_of" (defArgs (top 6)) (defBody (top 6)) (defScope (top 6)) [0, 1, 2] :=
  ⟨g_is_tuple_of c, ⟨rfl, rfl, rfl, by decide +kernel, rfl, by decide +kernel, by decide +kernel⟩, rfl, rfl, by decide⟩
theorem y_is_tuple_of (G : Gx (LL P w K mg base)) : BodyOk (LL P w K mg base) prg 1 d_is_tuple_of ["value", "low", "high"] "is_tuple_of" (defBody (top 6)) (defScope (top 6)) [0, 1, 2] :=
  fun n f cdv A outer s H E' hf hc ok => t_is_tuple_of G ok
theorem x_in_lowest (c : Sy w h K) : DefTx (LL P w K mg base) 2 d_in_lowest ["top", "bottom", "shared"] ["top", "bottom"] "in_lowest" (defArgs (top 8)) (defBody (top 8)) (defScope (top 8)) [0, 1, 2] :=
  ⟨g_in_lowest c, ⟨rfl, rfl, rfl, by decide +kernel, rfl, by decide +kernel, by decide +kernel⟩, rfl, rfl, by decide⟩
theorem y_in_lowest (G : Gx (LL P w K mg base)) : BodyOk (LL P w K mg base) prg 2 d_in_lowest ["top", "bottom", "shared"] "in_lowest" (defBody (top 8)) (defScope (top 8)) [0, 1, 2] :=
  fun n f cdv A outer s H E' hf hc ok => t_in_lowest G ok
theorem x_sum_of (c : Sy w h K) : DefTx (LL P w K mg base) 3 d_sum_of ["one", "other"] ["one", "other"] "sum_of" (defArgs (top 9)) (defBody (top 9)) (defScope (top 9)) [0, 1] :=
  ⟨g_sum_of c, ⟨rfl, rfl, rfl, by decide +kernel, rfl, by decide +kernel, by decide +kernel⟩, rfl, rfl, by decide⟩
theorem y_sum_of (G : Gx (LL P w K mg base)) : BodyOk (LL P w K mg base) prg 3 d_sum_of ["one", "other"] "sum_of" (defBody (top 9)) (defScope (top 9)) [0, 1] :=
  fun n f cdv A outer s H E' hf hc ok => t_sum_of G ok
theorem x_compared (c : Sy w h K) : DefTx (LL P w K mg base) 4 d_compared ["one", "other"] ["one", "other"] "compared" (defArgs (top 10)) (defBody (top 10)) (defScope (top 10)) [0, 1] :=
  ⟨g_compared c, ⟨rfl, rfl, rfl, by decide +kernel, rfl, by decide +kernel, by decide +kernel⟩, rfl, rfl, by decide⟩
theorem y_compared (G : Gx (LL P w K mg base)) : BodyOk (LL P w K mg base) prg 4 d_compared ["one", "other"] "compared" (defBody (top 10)) (defScope (top 10)) [0, 1] :=
  fun n f cdv A outer s H E' hf hc ok => t_compared G ok
theorem x_is_tree (c : Sy w h K) : DefTx (LL P w K mg base) 5 d_is_tree ["value", "pair", "at"] ["value"] "is_tree" (defArgs (top 14)) (defBody (top 14)) (defScope (top 14)) [0, 1, 2] :=
  ⟨g_is_tree c, ⟨rfl, rfl, rfl, by decide +kernel, rfl, by decide +kernel, by decide +kernel⟩, rfl, rfl, by decide⟩
theorem y_is_tree (G : Gx (LL P w K mg base)) : BodyOk (LL P w K mg base) prg 5 d_is_tree ["value", "pair", "at"] "is_tree" (defBody (top 14)) (defScope (top 14)) [0, 1, 2] :=
  fun n f cdv A outer s H E' hf hc ok => t_is_tree G ok
theorem x_need_tree (c : Sy w h K) : DefTx (LL P w K mg base) 6 d_need_tree ["value"] ["value"] "need_tree" (defArgs (top 15)) (defBody (top 15)) (defScope (top 15)) [0] :=
  ⟨g_need_tree c, ⟨rfl, rfl, rfl, by decide +kernel, rfl, by decide +kernel, by decide +kernel⟩, rfl, rfl, by decide⟩
theorem y_need_tree (G : Gx (LL P w K mg base)) : BodyOk (LL P w K mg base) prg 6 d_need_tree ["value"] "need_tree" (defBody (top 15)) (defScope (top 15)) [0] :=
  fun n f cdv A outer s H E' hf hc ok => t_need_tree G ok
theorem x_branches (c : Sy w h K) : DefTx (LL P w K mg base) 7 d_branches ["tree", "found", "at", "before", "branch"] ["tree"] "branches" (defArgs (top 16)) (defBody (top 16)) (defScope (top 16)) [0, 1, 2, 3, 4] :=
  ⟨g_branches c, ⟨rfl, rfl, rfl, by decide +kernel, rfl, by decide +kernel, by decide +kernel⟩, rfl, rfl, by decide⟩
theorem y_branches (G : Gx (LL P w K mg base)) : BodyOk (LL P w K mg base) prg 7 d_branches ["tree", "found", "at", "before", "branch"] "branches" (defBody (top 16)) (defScope (top 16)) [0, 1, 2, 3, 4] :=
  fun n f cdv A outer s H E' hf hc ok => t_branches G ok
theorem x_costs_in (c : Sy w h K) : DefTx (LL P w K mg base) 8 d_costs_in ["tree", "at", "branch"] ["tree"] "costs_in" (defArgs (top 17)) (defBody (top 17)) (defScope (top 17)) [0, 1, 2] :=
  ⟨g_costs_in c, ⟨rfl, rfl, rfl, by decide +kernel, rfl, by decide +kernel, by decide +kernel⟩, rfl, rfl, by decide⟩
theorem y_costs_in (G : Gx (LL P w K mg base)) : BodyOk (LL P w K mg base) prg 8 d_costs_in ["tree", "at", "branch"] "costs_in" (defBody (top 17)) (defScope (top 17)) [0, 1, 2] :=
  fun n f cdv A outer s H E' hf hc ok => t_costs_in G ok
theorem x_even_amounts (c : Sy w h K) : DefTx (LL P w K mg base) 9 d_even_amounts ["tree", "found", "line", "branch", "at"] ["tree"] "even_amounts" (defArgs (top 18)) (defBody (top 18)) (defScope (top 18)) [0, 1, 2, 3, 4] :=
  ⟨g_even_amounts c, ⟨rfl, rfl, rfl, by decide +kernel, rfl, by decide +kernel, by decide +kernel⟩, rfl, rfl, by decide⟩
theorem y_even_amounts (G : Gx (LL P w K mg base)) : BodyOk (LL P w K mg base) prg 9 d_even_amounts ["tree", "found", "line", "branch", "at"] "even_amounts" (defBody (top 18)) (defScope (top 18)) [0, 1, 2, 3, 4] :=
  fun n f cdv A outer s H E' hf hc ok => t_even_amounts G ok
theorem x_greatest (c : Sy w h K) : DefTx (LL P w K mg base) 10 d_greatest ["pairs", "found", "pair"] ["pairs"] "greatest" (defArgs (top 19)) (defBody (top 19)) (defScope (top 19)) [0, 1, 2] :=
  ⟨g_greatest c, ⟨rfl, rfl, rfl, by decide +kernel, rfl, by decide +kernel, by decide +kernel⟩, rfl, rfl, by decide⟩
theorem y_greatest (G : Gx (LL P w K mg base)) : BodyOk (LL P w K mg base) prg 10 d_greatest ["pairs", "found", "pair"] "greatest" (defBody (top 19)) (defScope (top 19)) [0, 1, 2] :=
  fun n f cdv A outer s H E' hf hc ok => t_greatest G ok
theorem x_least_peak (c : Sy w h K) : DefTx (LL P w K mg base) 11 d_least_peak ["tree", "cost", "branch"] ["tree"] "least_peak" (defArgs (top 20)) (defBody (top 20)) (defScope (top 20)) [0, 1, 2] :=
  ⟨g_least_peak c, ⟨rfl, rfl, rfl, by decide +kernel, rfl, by decide +kernel, by decide +kernel⟩, rfl, rfl, by decide⟩
theorem y_least_peak (G : Gx (LL P w K mg base)) : BodyOk (LL P w K mg base) prg 11 d_least_peak ["tree", "cost", "branch"] "least_peak" (defBody (top 20)) (defScope (top 20)) [0, 1, 2] :=
  fun n f cdv A outer s H E' hf hc ok => t_least_peak G ok
theorem x_levelled (c : Sy w h K) : DefTx (LL P w K mg base) 12 d_levelled ["tree", "some", "costs", "found", "ways", "branch", "cost", "open_ones", "at", "lack", "peak", "ratio", "widest"] ["tree"] "levelled" (defArgs (top 21)) (defBody (top 21)) (defScope (top 21)) [0, 1, 2, 3, 4, 5, 6, 7, 8, 9, 10, 11, 12] :=
  ⟨g_levelled c, ⟨rfl, rfl, rfl, by decide +kernel, rfl, by decide +kernel, by decide +kernel⟩, rfl, rfl, by decide⟩
theorem y_levelled (G : Gx (LL P w K mg base)) : BodyOk (LL P w K mg base) prg 12 d_levelled ["tree", "some", "costs", "found", "ways", "branch", "cost", "open_ones", "at", "lack", "peak", "ratio", "widest"] "levelled" (defBody (top 21)) (defScope (top 21)) [0, 1, 2, 3, 4, 5, 6, 7, 8, 9, 10, 11, 12] :=
  fun n f cdv A outer s H E' hf hc ok => t_levelled G ok
theorem x__law_cup (c : Sy w h K) : DefTx (LL P w K mg base) 13 d__law_cup ["script", "cell"] ["script"] "_law_cup" (defArgs (top 23)) (defBody (top 23)) (defScope (top 23)) [0, 1] :=
  ⟨g__law_cup c, ⟨rfl, rfl, rfl, by decide +kernel, rfl, by decide +kernel, by decide +kernel⟩, rfl, rfl, by decide⟩
theorem y__law_cup (G : Gx (LL P w K mg base)) : BodyOk (LL P w K mg base) prg 13 d__law_cup ["script", "cell"] "_law_cup" (defBody (top 23)) (defScope (top 23)) [0, 1] :=
  fun n f cdv A outer s H E' hf hc ok => t__law_cup G ok
theorem x__law_roll (c : Sy w h K) : DefTx (LL P w K mg base) 14 d__law_roll ["cup", "many", "found", "deep"] ["cup", "many"] "_law_roll" (defArgs (top 24)) (defBody (top 24)) (defScope (top 24)) [1, 2, 3] :=
  ⟨g__law_roll c, ⟨rfl, rfl, rfl, by decide +kernel, rfl, by decide +kernel, by decide +kernel⟩, rfl, rfl, by decide⟩
theorem y__law_roll (G : Gx (LL P w K mg base)) : BodyOk (LL P w K mg base) prg 14 d__law_roll ["cup", "many", "found", "deep"] "_law_roll" (defBody (top 24)) (defScope (top 24)) [1, 2, 3] :=
  fun n f cdv A outer s H E' hf hc ok => t__law_roll G ok
theorem x__law_some (c : Sy w h K) : DefTx (LL P w K mg base) 15 d__law_some ["cup", "things"] ["cup", "things"] "_law_some" (defArgs (top 25)) (defBody (top 25)) (defScope (top 25)) [1] :=
  ⟨g__law_some c, ⟨rfl, rfl, rfl, by decide +kernel, rfl, by decide +kernel, by decide +kernel⟩, rfl, rfl, by decide⟩
theorem y__law_some (G : Gx (LL P w K mg base)) : BodyOk (LL P w K mg base) prg 15 d__law_some ["cup", "things"] "_law_some" (defBody (top 25)) (defScope (top 25)) [1] :=
  fun n f cdv A outer s H E' hf hc ok => t__law_some G ok
theorem x__law_sort (c : Sy w h K) : DefTx (LL P w K mg base) 16 d__law_sort ["value"] ["value"] "_law_sort" (defArgs (top 26)) (defBody (top 26)) (defScope (top 26)) [0] :=
  ⟨g__law_sort c, ⟨rfl, rfl, rfl, by decide +kernel, rfl, by decide +kernel, by decide +kernel⟩, rfl, rfl, by decide⟩
theorem y__law_sort (G : Gx (LL P w K mg base)) : BodyOk (LL P w K mg base) prg 16 d__law_sort ["value"] "_law_sort" (defBody (top 26)) (defScope (top 26)) [0] :=
  fun n f cdv A outer s H E' hf hc ok => t__law_sort G ok
theorem x__law_like (c : Sy w h K) : DefTx (LL P w K mg base) 17 d__law_like ["one", "other", "sort", "first", "second"] ["one", "other"] "_law_like" (defArgs (top 27)) (defBody (top 27)) (defScope (top 27)) [0, 1, 2, 3, 4] :=
  ⟨g__law_like c, ⟨rfl, rfl, rfl, by decide +kernel, rfl, by decide +kernel, by decide +kernel⟩, rfl, rfl, by decide⟩
theorem y__law_like (G : Gx (LL P w K mg base)) : BodyOk (LL P w K mg base) prg 17 d__law_like ["one", "other", "sort", "first", "second"] "_law_like" (defBody (top 27)) (defScope (top 27)) [0, 1, 2, 3, 4] :=
  fun n f cdv A outer s H E' hf hc ok => t__law_like G ok
theorem x__law_low (c : Sy w h K) : DefTx (LL P w K mg base) 18 d__law_low ["top", "bottom", "one", "other", "turn", "shared"] ["top", "bottom"] "_law_low" (defArgs (top 28)) (defBody (top 28)) (defScope (top 28)) [0, 1, 2, 3, 4, 5] :=
  ⟨g__law_low c, ⟨rfl, rfl, rfl, by decide +kernel, rfl, by decide +kernel, by decide +kernel⟩, rfl, rfl, by decide⟩
theorem y__law_low (G : Gx (LL P w K mg base)) : BodyOk (LL P w K mg base) prg 18 d__law_low ["top", "bottom", "one", "other", "turn", "shared"] "_law_low" (defBody (top 28)) (defScope (top 28)) [0, 1, 2, 3, 4, 5] :=
  fun n f cdv A outer s H E' hf hc ok => t__law_low G ok
theorem x__law_add (c : Sy w h K) : DefTx (LL P w K mg base) 19 d__law_add ["one", "other"] ["one", "other"] "_law_add" (defArgs (top 29)) (defBody (top 29)) (defScope (top 29)) [0, 1] :=
  ⟨g__law_add c, ⟨rfl, rfl, rfl, by decide +kernel, rfl, by decide +kernel, by decide +kernel⟩, rfl, rfl, by decide⟩
theorem y__law_add (G : Gx (LL P w K mg base)) : BodyOk (LL P w K mg base) prg 19 d__law_add ["one", "other"] "_law_add" (defBody (top 29)) (defScope (top 29)) [0, 1] :=
  fun n f cdv A outer s H E' hf hc ok => t__law_add G ok
theorem x__law_order (c : Sy w h K) : DefTx (LL P w K mg base) 20 d__law_order ["pairs", "found", "pair", "at", "own"] ["pairs"] "_law_order" (defArgs (top 30)) (defBody (top 30)) (defScope (top 30)) [0, 1, 2, 3, 4] :=
  ⟨g__law_order c, ⟨rfl, rfl, rfl, by decide +kernel, rfl, by decide +kernel, by decide +kernel⟩, rfl, rfl, by decide⟩
theorem y__law_order (G : Gx (LL P w K mg base)) : BodyOk (LL P w K mg base) prg 20 d__law_order ["pairs", "found", "pair", "at", "own"] "_law_order" (defBody (top 30)) (defScope (top 30)) [0, 1, 2, 3, 4] :=
  fun n f cdv A outer s H E' hf hc ok => t__law_order G ok
theorem x__law_is_pair (c : Sy w h K) : DefTx (LL P w K mg base) 21 d__law_is_pair ["value", "tops", "bottoms"] ["value", "tops", "bottoms"] "_law_is_pair" (defArgs (top 31)) (defBody (top 31)) (defScope (top 31)) [0, 1, 2] :=
  ⟨g__law_is_pair c, ⟨rfl, rfl, rfl, by decide +kernel, rfl, by decide +kernel, by decide +kernel⟩, rfl, rfl, by decide⟩
theorem y__law_is_pair (G : Gx (LL P w K mg base)) : BodyOk (LL P w K mg base) prg 21 d__law_is_pair ["value", "tops", "bottoms"] "_law_is_pair" (defBody (top 31)) (defScope (top 31)) [0, 1, 2] :=
  fun n f cdv A outer s H E' hf hc ok => t__law_is_pair G ok
theorem x__law_tree (c : Sy w h K) : DefTx (LL P w K mg base) 22 d__law_tree ["cup", "many", "cost", "way", "found", "at", "before"] ["cup", "many", "cost"] "_law_tree" (defArgs (top 32)) (defBody (top 32)) (defScope (top 32)) [1, 2, 3, 4, 5, 6] :=
  ⟨g__law_tree c, ⟨rfl, rfl, rfl, by decide +kernel, rfl, by decide +kernel, by decide +kernel⟩, rfl, rfl, by decide⟩
theorem y__law_tree (G : Gx (LL P w K mg base)) : BodyOk (LL P w K mg base) prg 22 d__law_tree ["cup", "many", "cost", "way", "found", "at", "before"] "_law_tree" (defBody (top 32)) (defScope (top 32)) [1, 2, 3, 4, 5, 6] :=
  fun n f cdv A outer s H E' hf hc ok => t__law_tree G ok
theorem x__law_way (c : Sy w h K) : DefTx (LL P w K mg base) 23 d__law_way ["tree", "place", "found", "turn"] ["tree", "place"] "_law_way" (defArgs (top 33)) (defBody (top 33)) (defScope (top 33)) [0, 1, 2, 3] :=
  ⟨g__law_way c, ⟨rfl, rfl, rfl, by decide +kernel, rfl, by decide +kernel, by decide +kernel⟩, rfl, rfl, by decide⟩
theorem y__law_way (G : Gx (LL P w K mg base)) : BodyOk (LL P w K mg base) prg 23 d__law_way ["tree", "place", "found", "turn"] "_law_way" (defBody (top 33)) (defScope (top 33)) [0, 1, 2, 3] :=
  fun n f cdv A outer s H E' hf hc ok => t__law_way G ok
theorem x__law_branch (c : Sy w h K) : DefTx (LL P w K mg base) 24 d__law_branch ["tree", "place", "at"] ["tree", "place"] "_law_branch" (defArgs (top 34)) (defBody (top 34)) (defScope (top 34)) [0, 1, 2] :=
  ⟨g__law_branch c, ⟨rfl, rfl, rfl, by decide +kernel, rfl, by decide +kernel, by decide +kernel⟩, rfl, rfl, by decide⟩
theorem y__law_branch (G : Gx (LL P w K mg base)) : BodyOk (LL P w K mg base) prg 24 d__law_branch ["tree", "place", "at"] "_law_branch" (defBody (top 34)) (defScope (top 34)) [0, 1, 2] :=
  fun n f cdv A outer s H E' hf hc ok => t__law_branch G ok
theorem x__law_cost (c : Sy w h K) : DefTx (LL P w K mg base) 25 d__law_cost ["tree", "place", "at"] ["tree", "place"] "_law_cost" (defArgs (top 35)) (defBody (top 35)) (defScope (top 35)) [0, 1, 2] :=
  ⟨g__law_cost c, ⟨rfl, rfl, rfl, by decide +kernel, rfl, by decide +kernel, by decide +kernel⟩, rfl, rfl, by decide⟩
theorem y__law_cost (G : Gx (LL P w K mg base)) : BodyOk (LL P w K mg base) prg 25 d__law_cost ["tree", "place", "at"] "_law_cost" (defBody (top 35)) (defScope (top 35)) [0, 1, 2] :=
  fun n f cdv A outer s H E' hf hc ok => t__law_cost G ok
theorem x__law_sum (c : Sy w h K) : DefTx (LL P w K mg base) 27 d__law_sum ["pairs", "found", "pair"] ["pairs"] "_law_sum" (defArgs (top 37)) (defBody (top 37)) (defScope (top 37)) [0, 1, 2] :=
  ⟨g__law_sum c, ⟨rfl, rfl, rfl, by decide +kernel, rfl, by decide +kernel, by decide +kernel⟩, rfl, rfl, by decide⟩
theorem y__law_sum (G : Gx (LL P w K mg base)) : BodyOk (LL P w K mg base) prg 27 d__law_sum ["pairs", "found", "pair"] "_law_sum" (defBody (top 37)) (defScope (top 37)) [0, 1, 2] :=
  fun n f cdv A outer s H E' hf hc ok => t__law_sum G ok
theorem x__law_less (c : Sy w h K) : DefTx (LL P w K mg base) 28 d__law_less ["one", "other"] ["one", "other"] "_law_less" (defArgs (top 38)) (defBody (top 38)) (defScope (top 38)) [0, 1] :=
  ⟨g__law_less c, ⟨rfl, rfl, rfl, by decide +kernel, rfl, by decide +kernel, by decide +kernel⟩, rfl, rfl, by decide⟩
theorem y__law_less (G : Gx (LL P w K mg base)) : BodyOk (LL P w K mg base) prg 28 d__law_less ["one", "other"] "_law_less" (defBody (top 38)) (defScope (top 38)) [0, 1] :=
  fun n f cdv A outer s H E' hf hc ok => t__law_less G ok
theorem x__law_are_fair (c : Sy w h K) : DefTx (LL P w K mg base) 29 d__law_are_fair ["tree", "amounts", "one", "before", "cost", "tight", "place", "branch", "paid", "at"] ["tree", "amounts"] "_law_are_fair" (defArgs (top 39)) (defBody (top 39)) (defScope (top 39)) [0, 1, 2, 3, 4, 5, 6, 7, 8, 9] :=
  ⟨g__law_are_fair c, ⟨rfl, rfl, rfl, by decide +kernel, rfl, by decide +kernel, by decide +kernel⟩, rfl, rfl, by decide⟩
theorem y__law_are_fair (G : Gx (LL P w K mg base)) : BodyOk (LL P w K mg base) prg 29 d__law_are_fair ["tree", "amounts", "one", "before", "cost", "tight", "place", "branch", "paid", "at"] "_law_are_fair" (defBody (top 39)) (defScope (top 39)) [0, 1, 2, 3, 4, 5, 6, 7, 8, 9] :=
  fun n f cdv A outer s H E' hf hc ok => t__law_are_fair G ok
theorem x__law_right (c : Sy w h K) : DefTx (LL P w K mg base) 30 d__law_right ["tree", "even", "line", "branch", "at", "peaks", "place", "told", "own", "is_fair", "tight", "one", "other"] ["tree"] "_law_right" (defArgs (top 40)) (defBody (top 40)) (defScope (top 40)) [0, 1, 2, 3, 4, 5, 6, 7, 8, 9, 10, 11, 12] :=
  ⟨g__law_right c, ⟨rfl, rfl, rfl, by decide +kernel, rfl, by decide +kernel, by decide +kernel⟩, rfl, rfl, by decide⟩
theorem y__law_right (G : Gx (LL P w K mg base)) : BodyOk (LL P w K mg base) prg 30 d__law_right ["tree", "even", "line", "branch", "at", "peaks", "place", "told", "own", "is_fair", "tight", "one", "other"] "_law_right" (defBody (top 40)) (defScope (top 40)) [0, 1, 2, 3, 4, 5, 6, 7, 8, 9, 10, 11, 12] :=
  fun n f cdv A outer s H E' hf hc ok => t__law_right G ok
theorem x_law (c : Sy w h K) : DefTx (LL P w K mg base) 31 d_law ["script", "cup", "turn", "tree", "told", "due", "words", "odd", "call", "rising", "falling", "at", "mean", "before", "cost"] ["script"] "law" (defArgs (top 41)) (defBody (top 41)) (defScope (top 41)) [0, 1, 2, 3, 4, 5, 6, 7, 8, 9, 10, 11, 12, 13, 14] :=
  ⟨g_law c, ⟨rfl, rfl, rfl, by decide +kernel, rfl, by decide +kernel, by decide +kernel⟩, rfl, rfl, by decide⟩
theorem y_law (G : Gx (LL P w K mg base)) : BodyOk (LL P w K mg base) prg 31 d_law ["script", "cup", "turn", "tree", "told", "due", "words", "odd", "call", "rising", "falling", "at", "mean", "before", "cost"] "law" (defBody (top 41)) (defScope (top 41)) [0, 1, 2, 3, 4, 5, 6, 7, 8, 9, 10, 11, 12, 13, 14] :=
  fun n f cdv A outer s H E' hf hc ok => t_law G rfl (hcd_of (x := "law") hf hc) ok
theorem all_ok (c : Sy w h K) (G : Gx (LL P w K mg base)) : ∀ f d, prg.defs[f]? = some d → DefOk (LL P w K mg base) prg f d ∨ d.body = .cons .brk .nil := by
  intro f d hf
  match f, hf with
  | 0, hf => cases hf; exact .inl ⟨_, _, _, _, _, _, _, x_is_whole c, y_is_whole G⟩
  | 1, hf => cases hf; exact .inl ⟨_, _, _, _, _, _, _, x_is_tuple_of c, y_is_tuple_of G⟩
  | 2, hf => cases hf; exact .inl ⟨_, _, _, _, _, _, _, x_in_lowest c, y_in_lowest G⟩
  | 3, hf => cases hf; exact .inl ⟨_, _, _, _, _, _, _, x_sum_of c, y_sum_of G⟩
  | 4, hf => cases hf; exact .inl ⟨_, _, _, _, _, _, _, x_compared c, y_compared G⟩
  | 5, hf => cases hf; exact .inl ⟨_, _, _, _, _, _, _, x_is_tree c, y_is_tree G⟩
  | 6, hf => cases hf; exact .inl ⟨_, _, _, _, _, _, _, x_need_tree c, y_need_tree G⟩
  | 7, hf => cases hf; exact .inl ⟨_, _, _, _, _, _, _, x_branches c, y_branches G⟩
  | 8, hf => cases hf; exact .inl ⟨_, _, _, _, _, _, _, x_costs_in c, y_costs_in G⟩
  | 9, hf => cases hf; exact .inl ⟨_, _, _, _, _, _, _, x_even_amounts c, y_even_amounts G⟩
  | 10, hf => cases hf; exact .inl ⟨_, _, _, _, _, _, _, x_greatest c, y_greatest G⟩
  | 11, hf => cases hf; exact .inl ⟨_, _, _, _, _, _, _, x_least_peak c, y_least_peak G⟩
  | 12, hf => cases hf; exact .inl ⟨_, _, _, _, _, _, _, x_levelled c, y_levelled G⟩
  | 13, hf => cases hf; exact .inl ⟨_, _, _, _, _, _, _, x__law_cup c, y__law_cup G⟩
  | 14, hf => cases hf; exact .inl ⟨_, _, _, _, _, _, _, x__law_roll c, y__law_roll G⟩
  | 15, hf => cases hf; exact .inl ⟨_, _, _, _, _, _, _, x__law_some c, y__law_some G⟩
  | 16, hf => cases hf; exact .inl ⟨_, _, _, _, _, _, _, x__law_sort c, y__law_sort G⟩
  | 17, hf => cases hf; exact .inl ⟨_, _, _, _, _, _, _, x__law_like c, y__law_like G⟩
  | 18, hf => cases hf; exact .inl ⟨_, _, _, _, _, _, _, x__law_low c, y__law_low G⟩
  | 19, hf => cases hf; exact .inl ⟨_, _, _, _, _, _, _, x__law_add c, y__law_add G⟩
  | 20, hf => cases hf; exact .inl ⟨_, _, _, _, _, _, _, x__law_order c, y__law_order G⟩
  | 21, hf => cases hf; exact .inl ⟨_, _, _, _, _, _, _, x__law_is_pair c, y__law_is_pair G⟩
  | 22, hf => cases hf; exact .inl ⟨_, _, _, _, _, _, _, x__law_tree c, y__law_tree G⟩
  | 23, hf => cases hf; exact .inl ⟨_, _, _, _, _, _, _, x__law_way c, y__law_way G⟩
  | 24, hf => cases hf; exact .inl ⟨_, _, _, _, _, _, _, x__law_branch c, y__law_branch G⟩
  | 25, hf => cases hf; exact .inl ⟨_, _, _, _, _, _, _, x__law_cost c, y__law_cost G⟩
  | 26, hf => cases hf; exact .inr rfl
  | 27, hf => cases hf; exact .inl ⟨_, _, _, _, _, _, _, x__law_sum c, y__law_sum G⟩
  | 28, hf => cases hf; exact .inl ⟨_, _, _, _, _, _, _, x__law_less c, y__law_less G⟩
  | 29, hf => cases hf; exact .inl ⟨_, _, _, _, _, _, _, x__law_are_fair c, y__law_are_fair G⟩
  | 30, hf => cases hf; exact .inl ⟨_, _, _, _, _, _, _, x__law_right c, y__law_right G⟩
  | 31, hf => cases hf; exact .inl ⟨_, _, _, _, _, _, _, x_law c, y_law G⟩
  | f + 32, hf => cases hf
theorem all_0 (c : Sy w h K) : ∀ f, ∃ fd ps, PySem.W.keepIn (LL P w K mg base).K (.ref ((LL P w K mg base).fa f)) = true ∧ Binds (LL P w K mg base).K fd ps [] := by
  intro f
  match f with
  | 0 => exact let ⟨fd, F, b⟩ := g_is_whole c; ⟨fd, _, F.kp, b⟩
  | 1 => exact let ⟨fd, F, b⟩ := g_is_tuple_of c; ⟨fd, _, F.kp, b⟩
  | 2 => exact let ⟨fd, F, b⟩ := g_in_lowest c; ⟨fd, _, F.kp, b⟩
  | 3 => exact let ⟨fd, F, b⟩ := g_sum_of c; ⟨fd, _, F.kp, b⟩
  | 4 => exact let ⟨fd, F, b⟩ := g_compared c; ⟨fd, _, F.kp, b⟩
  | 5 => exact let ⟨fd, F, b⟩ := g_is_tree c; ⟨fd, _, F.kp, b⟩
  | 6 => exact let ⟨fd, F, b⟩ := g_need_tree c; ⟨fd, _, F.kp, b⟩
  | 7 => exact let ⟨fd, F, b⟩ := g_branches c; ⟨fd, _, F.kp, b⟩
  | 8 => exact let ⟨fd, F, b⟩ := g_costs_in c; ⟨fd, _, F.kp, b⟩
  | 9 => exact let ⟨fd, F, b⟩ := g_even_amounts c; ⟨fd, _, F.kp, b⟩
  | 10 => exact let ⟨fd, F, b⟩ := g_greatest c; ⟨fd, _, F.kp, b⟩
  | 11 => exact let ⟨fd, F, b⟩ := g_least_peak c; ⟨fd, _, F.kp, b⟩
  | 12 => exact let ⟨fd, F, b⟩ := g_levelled c; ⟨fd, _, F.kp, b⟩
  | 13 => exact let ⟨fd, F, b⟩ := g__law_cup c; ⟨fd, _, F.kp, b⟩
  | 14 => exact let ⟨fd, F, b⟩ := g__law_roll c; ⟨fd, _, F.kp, b⟩
  | 15 => exact let ⟨fd, F, b⟩ := g__law_some c; ⟨fd, _, F.kp, b⟩
  | 16 => exact let ⟨fd, F, b⟩ := g__law_sort c; ⟨fd, _, F.kp, b⟩
  | 17 => exact let ⟨fd, F, b⟩ := g__law_like c; ⟨fd, _, F.kp, b⟩
  | 18 => exact let ⟨fd, F, b⟩ := g__law_low c; ⟨fd, _, F.kp, b⟩
  | 19 => exact let ⟨fd, F, b⟩ := g__law_add c; ⟨fd, _, F.kp, b⟩
  | 20 => exact let ⟨fd, F, b⟩ := g__law_order c; ⟨fd, _, F.kp, b⟩
  | 21 => exact let ⟨fd, F, b⟩ := g__law_is_pair c; ⟨fd, _, F.kp, b⟩
  | 22 => exact let ⟨fd, F, b⟩ := g__law_tree c; ⟨fd, _, F.kp, b⟩
  | 23 => exact let ⟨fd, F, b⟩ := g__law_way c; ⟨fd, _, F.kp, b⟩
  | 24 => exact let ⟨fd, F, b⟩ := g__law_branch c; ⟨fd, _, F.kp, b⟩
  | 25 => exact let ⟨fd, F, b⟩ := g__law_cost c; ⟨fd, _, F.kp, b⟩
  | 26 => exact let ⟨fd, F, b⟩ := g__law_error c; ⟨fd, _, F.kp, b⟩
  | 27 => exact let ⟨fd, F, b⟩ := g__law_sum c; ⟨fd, _, F.kp, b⟩
  | 28 => exact let ⟨fd, F, b⟩ := g__law_less c; ⟨fd, _, F.kp, b⟩
  | 29 => exact let ⟨fd, F, b⟩ := g__law_are_fair c; ⟨fd, _, F.kp, b⟩
  | 30 => exact let ⟨fd, F, b⟩ := g__law_right c; ⟨fd, _, F.kp, b⟩
  | 31 => exact let ⟨fd, F, b⟩ := g_law c; ⟨fd, _, F.kp, b⟩
  | f + 32 => exact let ⟨fd, F, b⟩ := g_law c; ⟨fd, _, F.kp, b⟩
/-- what is to be shown of the plain evaluation -/
def Ans (k : Nat) : Prop := ∀ ns : List Int, ns.length ≤ 63 → (∀ z ∈ ns, Builtin.Int.intBits z ≤ 1048576) → ∃ os, run prg k 31 [.d (.scr ns)] = .ok (.d (.bl true), os)
theorem lawAt {k : Nat} {f : Addr} (X : K.In h) (G : h.Ns mainGlobals mg) (hf : mg "law" = some (.ref f)) (c : Sy w h K) (hr : Ans (k + 1)) : LamX.LawAtS PySem.Challenge.rw_currentkept_k72_whole_levelled_amounts w K (L2N.CX PySem.Challenge.rw_currentkept_k72_whole_levelled_amounts.prog w) (k + 1) 63 "script" mg f h := by
  obtain ⟨fd, F, bd⟩ := g_law c
  have e := Option.some.inj (hf.symm.trans (He.glo_ok X G (c.t.d.fact 31 (f := .glo "law") rfl)))
  have e : f = He.fAd K ("law", none) := by injection e
  subst e
  have mt : ∀ d ∈ lamd, ((d, none) : He.Defn) ∈ tf := by decide
  refine ⟨fd, lamd.map fun d => He.cT K (d, none), spD K (LL PySem.Challenge.rw_currentkept_k72_whole_levelled_amounts.prog w K mg h).fa (LL PySem.Challenge.rw_currentkept_k72_whole_levelled_amounts.prog w K mg h).ca (LL PySem.Challenge.rw_currentkept_k72_whole_levelled_amounts.prog w K mg h).T ((runs prg (k + 1)).1 31), fun p hp => ?_, fun p hp => ?_, fun p hp => ?_, fun s v => FunD.bindsA (ps := ["script"]) F (fun _ _ _ _ _ _ us hl => match us, hl with | [_], _ => rfl) s [v] rfl, fun H a ns hl hb hT hS => ?_, fun base KX GX hT => ?_⟩
  · obtain ⟨d, hd, rfl⟩ := List.mem_map.mp hp
    exact c.empty _ (mt d hd)
  · obtain ⟨d, hd, rfl⟩ := List.mem_map.mp hp
    exact c.out _ (mt d hd)
  · obtain ⟨d, hd, rfl⟩ := List.mem_map.mp hp
    exact PySem.W.codeHd_of_K X (c.hd _ (mt d hd))
  · exact law_sp (L := LL PySem.Challenge.rw_currentkept_k72_whole_levelled_amounts.prog w K mg h) (fun q hq => by
      obtain ⟨d, hd, rfl⟩ := List.mem_map.mp hq
      exact hT _ (List.mem_map.mpr ⟨d, hd, rfl⟩)) hS (hr ns hl hb)
  · have G' : Gx (LL PySem.Challenge.rw_currentkept_k72_whole_levelled_amounts.prog w K mg base) := gx X G c fun d hd => hT _ (List.mem_map.mpr ⟨d, hd, rfl⟩)
    exact fn_step (L := LL PySem.Challenge.rw_currentkept_k72_whole_levelled_amounts.prog w K mg base) (p := prg) (f := 31) (d := d_law) (all_0 c) rfl F (x_law c) (y_law G') fun m _ => fn_allT (all_ok c G') (all_0 c) m
end

end P72
end
theorem P72.ans : P72.Ans 60 := fun ns hl _ => P72M.law_ok ns hl
set_option linter.all false
set_option maxRecDepth 100000
set_option maxHeartbeats 0
open PySem PySem.W PySem.Calls PyProof.Rows
theorem PySem.Challenge.cw_currentkept_k72_whole_levelled_amounts_holds : PySem.Challenge.rw_currentkept_k72_whole_levelled_amounts.Holds :=
  by
  w_on; o_law
  refine EV.headB (r := OpenLaw.row PySem.Challenge.rw_currentkept_k72_whole_levelled_amounts) (q := view (OpenLaw.row PySem.Challenge.rw_currentkept_k72_whole_levelled_amounts).prog [41]) (H := P72.hk) (ob := P72.ob) (M := 6000) (N := 8000) (loose := P72.names) (d := HandSHeadRun.topDef (OpenLaw.row PySem.Challenge.rw_currentkept_k72_whole_levelled_amounts).prog 41) (kwd := []) (by decide) P72.ob_eq P72.run_ (by kernel_rfl) (by kernel_rfl) (by kernel_rfl) (by rfl) (by first | assumption | decide +kernel) (by decide +kernel) ⟨rfl, rfl, rfl, rfl, rfl, by decide +kernel⟩ ?hw ?hc
  case hw => w_witness2
  case hc =>
    refine LamX.walk_ofTsE (l := PySem.Challenge.rw_currentkept_k72_whole_levelled_amounts) (n := 63) (k := 60) (x := "script") (CX := fun w => L2N.CX PySem.Challenge.rw_currentkept_k72_whole_levelled_amounts.prog w) rfl (by decide) (by kernel_rfl) ⟨rfl, by decide, by decide⟩ ?F ?X
    case X =>
      intro w H s e s' z
      obtain ⟨_, _, _, _, _, _, _, _, _, _, _, _, z⟩ := z
      exact z
    intro w mg fa h Y G hmg0
    obtain ⟨K, KX, c⟩ := Y
    have hmg : mg ("law" : PySem.Str) = some (.ref fa) := by
      have e : (HandSHeadRun.topDef (OpenLaw.row PySem.Challenge.rw_currentkept_k72_whole_levelled_amounts).prog 41).name = ("law" : PySem.Str) := by kernel_rfl
      rw [← e]
      exact hmg0
    exact ⟨K, KX, P72.lawAt KX G hmg c P72.ans⟩

