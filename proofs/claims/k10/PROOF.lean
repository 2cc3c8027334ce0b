import PyProof.Rows.All
import Wide.All
import OpenK.AllK
import Wide.FinOn
import PyProof.EqAt
import PyProof.EqKinds
import PyProof.TupleCall
import HandS.ForMost
import HandS.Flow
import HandS.Zip
import HandS.TupAny
import HandS.TupMul
import HandS.Conv
import HandS.Deep
import HandS.SortInts
import HandS.Strs
import HandS.Walk
import HandS.IsInst
import HandS.Defaults
import KE.KStar
import HandS.SetFor
import HandS.Dict
import HandS.List
import KE.KDictPairs
import HandS.Call
import KE.GoesEnum
import HandS.Style
import HandS.Words
import HandS.Ends
import HandS.More
import HandS.WordsExc
import HandS.Head0
import HandS.Head1
import HandS.Head2
import HandS.HeadEnd
import HandS.HeadHook1
import HandS.HeadHook2
import HandS.HeadHook4
import KE.KStateDown
import PySem.Challenge.RW_latesights_k10_settling_by_all_boxes
set_option Elab.async false
set_option linter.all false
set_option maxRecDepth 100000
set_option maxHeartbeats 4000000
namespace LI
open PySem

inductive SV where
  | dat (d : PyData)
  | own (t : Option Nat) (d : PyData)
abbrev Rho := List (Option SV)
abbrev Fn := Str → List SV → Option (SV × Rho)

inductive Kd where
  | list | tuple | int | bool | str
  deriving DecidableEq

inductive Pr where
  | add | sub | mul | mod | fdiv | pow | neg
  | eq | ne | lt | le | gt | ge | isin | notin | isnone | notnone
  | idx | sl (lo hi : Bool)
  | len | tuple | list | sorted | sortedset | abs | int | min2 | max2 | all | any | sum
  | isi (ks : List Kd) | lrange1 | lrange2 | trange1 | dict
  deriving DecidableEq

inductive T where
  | name (i : Nat)
  | tup (ts : List T)

mutual
inductive E where
  | var (i : Nat)
  | cst (d : PyData)
  | tup (es : List E)
  | lst (es : List E)
  | star (e : E)
  | call (f : Str) (ks : List Nat) (mu : List Bool) (es : List E)
  | prim (p : Pr) (es : List E)
  | andE (a b : E)
  | orE (a b : E)
  | notE (a : E)
  | ite (c a b : E)
  | chain (p q : Pr) (a b c : E)
  | lc (elt : E) (tg : T) (it : It) (cond : Option E) (vs : List Nat)
  | lc2 (elt : E) (tg : T) (it : It) (c1 : Option E) (tg2 : T) (it2 : It) (c2 : Option E) (vs vs2 : List Nat)
  | popAt (i : Nat) (e : E)
  | sl2 (a : List E) (lo hi : E)
  | index (o : List E) (e : E)
inductive It where
  | seq (e : E)
  | rng1 (e : E)
  | rng2 (a b : E)
  | enum (e : E)
  | zip (a b : E)
  | enumzip (a b : E)
end

inductive S where
  | asg (i : Nat) (e : E)
  | pasg (is : List Nat) (es : List E)
  | uasg (ts : List T) (e : E)
  | seti (i : Nat) (ix e : E)
  | app (i : Nat) (e : E)
  | ext (i : Nat) (e : E)
  | expr (e : E)
  | ite (c : E) (a b : List S)
  | forS (tg : T) (it : It) (body : List S)
  | whileS (c : E) (body : List S)
  | ret (e : E)
  | retN
  | pass
  | brk
  | cont
  | never

inductive Fl where
  | nx | ret (r : SV) | brk | cont

def truth : PyData → Option Bool
  | .none => some false
  | .bool b => some b
  | .int i => some (i != 0)
  | .list xs => some (!xs.isEmpty)
  | .tuple xs => some (!xs.isEmpty)
  | _ => none

def SV.d : SV → PyData
  | .dat d => d
  | .own _ d => d

mutual
def setT : T → PyData → Rho → Option Rho
  | .name i, d, r => some (r.set i (some (.dat d)))
  | .tup ts, .tuple ds, r => setTs ts ds r
  | .tup _, _, _ => none
def setTs : List T → List PyData → Rho → Option Rho
  | [], [], r => some r
  | t :: ts, d :: ds, r => (setT t d r).bind fun r' => setTs ts ds r'
  | _, _, _ => none
end

/-! ### data -/
def szl : Nat := 16777216
def intsD : List PyData → Option (List Int)
  | [] => some []
  | .int i :: r => (intsD r).map (i :: ·)
  | _ :: _ => none
def boolsD : List PyData → Option (List Bool)
  | [] => some []
  | .bool b :: r => (boolsD r).map (b :: ·)
  | _ :: _ => none
def seqOf : PyData → Option (List PyData)
  | .list xs => some xs
  | .tuple xs => some xs
  | _ => none
def flatD : PyData → Bool
  | .none | .bool _ | .int _ | .str _ => true
  | _ => false
def insI (x : Int) : List Int → List Int
  | [] => [x]
  | y :: r => if x ≤ y then x :: y :: r else y :: insI x r
def srtI : List Int → List Int
  | [] => []
  | x :: r => insI x (srtI r)
def insU (x : Int) : List Int → List Int
  | [] => [x]
  | y :: r => if x < y then x :: y :: r else if x = y then y :: r else y :: insU x r
/-- ascending, each once -/
def srtU : List Int → List Int
  | [] => []
  | x :: r => insU x (srtU r)
def ixD (n : Nat) (i : Int) : Option Nat := if 0 ≤ i then (if i < n then some i.toNat else none) else if -(n : Int) ≤ i then some (i + n).toNat else none
def atD (xs : List PyData) (i : Int) : Option PyData := (ixD xs.length i).bind fun j => xs[j]?
def sIxD (n d : Nat) : Option Int → Nat
  | none => d
  | some v => if v < 0 then (v + n).toNat else min v.toNat n
def cutD (xs : List PyData) (lo hi : Option Int) : List PyData := (xs.drop (sIxD xs.length 0 lo)).take (sIxD xs.length xs.length hi - sIxD xs.length 0 lo)
def kindIs (k : Kd) : PyData → Bool
  | .list _ => k == .list
  | .tuple _ => k == .tuple
  | .int _ => k == .int
  | .bool _ => k == .bool || k == .int
  | .str _ => k == .str
  | _ => false
def findE (d : PyData) : List PyData → Option Nat
  | [] => none
  | x :: r => if PyData.eqv x d then some 0 else (findE d r).map (· + 1)
def inE (d : PyData) (ds : List PyData) : Bool := ds.any fun z => PyData.eqv z d
def rgD (a b : Int) : List PyData := (List.range (b - a).toNat).map fun i => PyData.int (a + (i : Nat))
def okMul (i j : Int) : Bool := (decide (-(2 ^ 64) < i) && decide (i < 2 ^ 64)) || (decide (-(2 ^ 64) < j) && decide (j < 2 ^ 64))
def okRg (a b : Int) : Bool := decide (-(2 ^ 62) ≤ a) && decide (a < 2 ^ 62) && decide (-(2 ^ 62) ≤ b) && decide (b < 2 ^ 62) && decide ((b - a).toNat ≤ 2 ^ 24)
def slParts : Bool → Bool → List PyData → Option (Option Int × Option Int)
  | false, false, [] => some (none, none)
  | true, false, [.int i] => some (some i, none)
  | false, true, [.int j] => some (none, some j)
  | true, true, [.int i, .int j] => some (some i, some j)
  | _, _, _ => none
def dbl (b : Bool) : Option SV := some (.dat (.bool b))
def din (i : Int) : Option SV := some (.dat (.int i))
def dls (xs : List PyData) : Option SV := some (.own none (.list xs))

def pAdd : List PyData → Option SV
  | [.int i, .int j] => din (i + j)
  | [.list a, .list b] => if a.length + b.length ≤ szl then dls (a ++ b) else none
  | [.tuple a, .tuple b] => if a.length + b.length ≤ szl then some (.dat (.tuple (a ++ b))) else none
  | _ => none
def pMul : List PyData → Option SV
  | [.int i, .int j] => if okMul i j then din (i * j) else none
  | [.list a, .int k] => if 0 ≤ k ∧ k ≤ 1000 ∧ a.length ≤ 1000 then dls (List.replicate k.toNat a).flatten else none
  | [.tuple a, .int k] => if 0 ≤ k ∧ k ≤ 1000 ∧ a.length ≤ 1000 ∧ a ≠ [] then some (.dat (.tuple (List.replicate k.toNat a).flatten)) else none
  | _ => none
def pInt2 (f : Int → Int → Option SV) : List PyData → Option SV
  | [.int i, .int j] => f i j
  | _ => none
def pIn (neg : Bool) : List PyData → Option SV
  | [d, .list ds] => if (flatD d && ds.all flatD) || (SeqAt.shaped d && SeqAt.shaped (.list ds)) then dbl (if neg then !inE d ds else inE d ds) else none
  | [d, .tuple ds] => if flatD d && ds.all flatD then dbl (if neg then !inE d ds else inE d ds) else none
  | _ => none
abbrev Ky := Sum Int Str
def keyD : Ky → PyData
  | .inl i => .int i
  | .inr x => .str x
def keysD : List PyData → Option (List Ky)
  | [] => some []
  | .int i :: r => (keysD r).map (.inl i :: ·)
  | .str x :: r => (keysD r).map (.inr x :: ·)
  | _ :: _ => none
def keyOfD : PyData → Option (List Ky)
  | .tuple ks => keysD ks
  | _ => none
def dgetD (ds : List (PyData × PyData)) (k : List Ky) : Option PyData := (ds.find? fun p => decide (keyOfD p.1 = some k)).map (·.2)
def pairsD : List PyData → Option (List (List Ky × PyData))
  | [] => some []
  | .tuple [.tuple ks, v] :: r => (keysD ks).bind fun k => (pairsD r).map ((k, v) :: ·)
  | _ :: _ => none
def putG (kvs : List (List Ky × PyData)) (k : List Ky) (v : PyData) : List (List Ky × PyData) :=
  if (kvs.any fun kv => decide (kv.1 = k)) = true then kvs.map (fun kv => if kv.1 = k then (kv.1, v) else kv) else kvs ++ [(k, v)]
def mergeG (acc kvs : List (List Ky × PyData)) : List (List Ky × PyData) := kvs.foldl (fun acc q => putG acc q.1 q.2) acc
def toDD (kvs : List (List Ky × PyData)) : List (PyData × PyData) := kvs.map fun q => (.tuple (q.1.map keyD), q.2)
def pDict : PyData → Option SV
  | .list ps => (pairsD ps).map fun kvs => .dat (.dict (toDD (mergeG [] kvs)))
  | _ => none
def pIdx : List PyData → Option SV
  | [.list ds, .int i] => (atD ds i).map .dat
  | [.tuple ds, .int i] => (atD ds i).map .dat
  | [.dict ds, .tuple ks] => (keysD ks).bind fun k => (dgetD ds k).map .dat
  | _ => none
def pSl (lo hi : Bool) : List PyData → Option SV
  | .list ds :: r => (slParts lo hi r).bind fun p => dls (cutD ds p.1 p.2)
  | .tuple ds :: r => (slParts lo hi r).bind fun p => some (.dat (.tuple (cutD ds p.1 p.2)))
  | .dict [(.list ds, _)] :: r => (slParts lo hi r).bind fun p => dls (cutD ds p.1 p.2)
  | _ => none
def isNoneD : PyData → Bool
  | .none => true
  | _ => false
def p1 (f : PyData → Option SV) : List PyData → Option SV
  | [d] => f d
  | _ => none
def p2 (f : PyData → PyData → Option SV) : List PyData → Option SV
  | [d, e] => f d e
  | _ => none
def pI1 (f : Int → Option SV) : PyData → Option SV
  | .int i => f i
  | _ => none
def pL1 (f : List PyData → Option SV) : PyData → Option SV
  | .list ds => f ds
  | _ => none
def pInt : PyData → Option SV
  | .int i => din i
  | .bool b => din (if b then 1 else 0)
  | _ => none
def pIndex : PyData → PyData → Option SV
  | .list ds, d => if SeqAt.shaped d && SeqAt.shaped (.list ds) then (findE d ds).bind fun j => din j else none
  | _, _ => none
def pSet (xs : List PyData) : Option SV := (intsD xs).bind fun ns => if ns.length + 1 < 4096 ∧ (srtU ns).length < 64 then dls ((srtU ns).map .int) else none
def noDict : PyData → Bool
  | .dict _ => false
  | _ => true
def prim : Pr → List PyData → Option SV
  | .add, ds => pAdd ds
  | .sub, ds => pInt2 (fun i j => din (i - j)) ds
  | .mul, ds => pMul ds
  | .mod, ds => pInt2 (fun i j => if 0 < j then din (i % j) else none) ds
  | .fdiv, ds => pInt2 (fun i j => if 0 < j ∧ j < 1073741824 then din (i / j) else none) ds
  | .pow, ds => pInt2 (fun i j => if 0 ≤ j ∧ j ≤ 1000000 ∧ i.natAbs < 2 ^ 64 then din (i ^ j.toNat) else none) ds
  | .neg, ds => p1 (pI1 fun i => din (-i)) ds
  | .eq, ds => p2 (fun a b => if SeqAt.shaped a && SeqAt.shaped b then dbl (PyData.eqv a b) else none) ds
  | .ne, ds => p2 (fun a b => if SeqAt.shaped a && SeqAt.shaped b then dbl (!PyData.eqv a b) else none) ds
  | .lt, ds => pInt2 (fun i j => dbl (decide (i < j))) ds
  | .le, ds => pInt2 (fun i j => dbl (decide (i ≤ j))) ds
  | .gt, ds => pInt2 (fun i j => dbl (decide (j < i))) ds
  | .ge, ds => pInt2 (fun i j => dbl (decide (j ≤ i))) ds
  | .isin, ds => pIn false ds
  | .notin, ds => pIn true ds
  | .isnone, ds => p1 (fun d => dbl (isNoneD d)) ds
  | .notnone, ds => p1 (fun d => dbl (!isNoneD d)) ds
  | .idx, ds => pIdx ds
  | .sl lo hi, ds => pSl lo hi ds
  | .len, ds => p1 (fun d => (seqOf d).bind fun xs => din xs.length) ds
  | .tuple, ds => p1 (fun d => (seqOf d).bind fun xs => some (.dat (.tuple xs))) ds
  | .list, ds => p1 (fun d => (seqOf d).bind fun xs => dls xs) ds
  | .sorted, ds => p1 (pL1 fun xs => (intsD xs).bind fun ns => dls ((srtI ns).map .int)) ds
  | .sortedset, ds => p1 (fun d => (seqOf d).bind fun xs => pSet xs) ds
  | .abs, ds => p1 (pI1 fun i => din (if i < 0 then -i else i)) ds
  | .int, ds => p1 pInt ds
  | .min2, ds => pInt2 (fun i j => din (if j < i then j else i)) ds
  | .max2, ds => pInt2 (fun i j => din (if j > i then j else i)) ds
  | .all, ds => p1 (pL1 fun xs => (boolsD xs).bind fun bs => dbl (bs.all id)) ds
  | .any, ds => p1 (pL1 fun xs => (boolsD xs).bind fun bs => dbl (bs.any id)) ds
  | .sum, ds => p1 (pL1 fun xs => (intsD xs).bind fun ns => din ns.sum) ds
  | .isi ks, ds => p1 (fun d => if noDict d then dbl (ks.any fun k => kindIs k d) else none) ds
  | .lrange1, ds => p1 (pI1 fun n => if okRg 0 n then dls (rgD 0 n) else none) ds
  | .lrange2, ds => pInt2 (fun a b => if okRg a b then dls (rgD a b) else none) ds
  | .trange1, ds => p1 (pI1 fun n => if okRg 0 n then some (.dat (.tuple (rgD 0 n))) else none) ds
  | .dict, ds => p1 pDict ds

/-! ### the evaluator -/
abbrev Opd := Sum Nat PyData
def rdO (r : Rho) : Opd → Option PyData
  | .inr d => some d
  | .inl i => match r[i]? with
    | some (some (.dat d)) => some d
    | some (some (.own _ d)) => some d
    | _ => none
def rdOs (r : Rho) : List Opd → Option (List PyData)
  | [] => some []
  | o :: os => (rdO r o).bind fun d => (rdOs r os).map (d :: ·)
/-- what is lent: the argument's place, the slot and its tag -/
abbrev Back := Option (Nat × Nat × Option Nat)
def tagA : Nat → List SV → Rho
  | _, [] => []
  | j, .dat d :: r => some (.dat d) :: tagA (j + 1) r
  | j, .own _ d :: r => some (.own (some j) d) :: tagA (j + 1) r
def giveB (outs : Rho) (bk : Back) (r : Rho) : Rho := match bk with
  | none => r
  | some (j, i, t) => match outs[j]? with
    | some (some (.own (some j') d)) => if j' = j then r.set i (some (.own t d)) else r
    | _ => r
def upB (bk : Back) : Back := bk.map fun q => (q.1 + 1, q.2)
def wipeR (r : Rho) : List Nat → Rho
  | [] => r
  | v :: vs => (wipeR r vs).set v none
def restR (r0 r : Rho) : List Nat → Rho
  | [] => r
  | v :: vs => (restR r0 r vs).set v ((r0[v]?).getD none)
def bArg (mu : Bool) (e : E) : Option Nat := match mu, e with
  | true, .var i => some i
  | _, _ => none
def perm {α : Type} (ks : List Nat) (l : List α) : Option (List α) := match ks with
  | [] => some l
  | _ => ks.mapM fun k => l[k]?
def loopLc (f : PyData → Rho → Option (Option PyData × Rho)) (vs : List Nat) : List PyData → List PyData → Rho → Option (List PyData × Rho)
  | [], acc, r => some (acc, r)
  | x :: xs, acc, r => (f x (wipeR r vs)).bind fun p => loopLc f vs xs (match p.1 with | some y => acc ++ [y] | none => acc) p.2
def loopIn (g : PyData → Rho → Option (Option PyData × Rho)) (vs : List Nat) : List PyData → List PyData → Rho → Option (List PyData × Rho)
  | [], acc, r => some (acc, wipeR r vs)
  | x :: xs, acc, r => (g x (wipeR r vs)).bind fun p => match p.1 with
    | none => loopIn g vs xs acc p.2
    | some d => if acc.length < szl then loopIn g vs xs (acc ++ [d]) p.2 else none
def loopLc2 (f : PyData → Rho → Option (Option (List PyData) × Rho)) (g : PyData → Rho → Option (Option PyData × Rho)) (vs vs2 : List Nat) : List PyData → List PyData → Rho → Option (List PyData × Rho)
  | [], acc, r => some (acc, r)
  | x :: xs, acc, r => (f x (wipeR r vs)).bind fun p => match p.1 with
    | none => loopLc2 f g vs vs2 xs acc p.2
    | some its => (loopIn g vs2 its acc p.2).bind fun q => loopLc2 f g vs vs2 xs q.1 q.2
def loopFor (f : PyData → Rho → Option (Fl × Rho)) : List PyData → Rho → Option (Fl × Rho)
  | [], r => some (.nx, r)
  | x :: xs, r => (f x r).bind fun p => match p.1 with
    | .nx => loopFor f xs p.2
    | .cont => loopFor f xs p.2
    | .brk => some (.nx, p.2)
    | .ret v => some (.ret v, p.2)
def loopWh (c : Rho → Option (Bool × Rho)) (f : Rho → Option (Fl × Rho)) : Nat → Rho → Option (Fl × Rho)
  | 0, _ => none
  | n + 1, r => (c r).bind fun q => if q.1 then (f q.2).bind fun p => match p.1 with
      | .nx => loopWh c f n p.2
      | .cont => loopWh c f n p.2
      | .brk => some (.nx, p.2)
      | .ret v => some (.ret v, p.2)
    else some (.nx, q.2)
def wfuel : Nat := 1000000
def enumD : Nat → List PyData → List PyData
  | _, [] => []
  | k, d :: r => .tuple [.int k, d] :: enumD (k + 1) r
def zipD : List PyData → List PyData → List PyData
  | a :: r, b :: s => .tuple [a, b] :: zipD r s
  | _, _ => []

def isListD : List PyData → Bool
  | [.list _] => true
  | _ => false
def ownL (r : Rho) (i : Nat) : Bool := match r[i]? with
  | some (some (.own _ (.list _))) => true
  | _ => false
mutual
def evE (φ : Fn) : E → Rho → Option (SV × Rho)
  | .var i, r => match r[i]? with
    | some (some (.dat d)) => some (.dat d, r)
    | some (some (.own _ d)) => some (.dat d, r.set i (some (.dat d)))
    | _ => none
  | .cst d, r => some (.dat d, r)
  | .tup es, r => (evL φ es r).bind fun p => if p.1.length ≤ szl then some (.dat (.tuple p.1), p.2) else none
  | .lst es, r => (evL φ es r).bind fun p => if p.1.length ≤ szl then some (.own none (.list p.1), p.2) else none
  | .star _, _ => none
  | .call f ks mu es, r => (evA φ es mu r).bind fun p => if ks.isEmpty || p.2.1.isNone then (perm ks p.1).bind fun as => (φ f as).map fun q => (q.1, giveB q.2 p.2.1 p.2.2) else none
  | .prim p es, r => (evO φ es r).bind fun q => (rdOs q.2 q.1).bind fun ds => (prim p ds).map fun v => (v, q.2)
  | .andE a b, r => (evE φ a r).bind fun p => (truth p.1.d).bind fun t => if t then evE φ b p.2 else some p
  | .orE a b, r => (evE φ a r).bind fun p => (truth p.1.d).bind fun t => if t then some p else evE φ b p.2
  | .notE a, r => (evE φ a r).bind fun p => (truth p.1.d).bind fun t => some (.dat (.bool (!t)), p.2)
  | .ite c a b, r => (evE φ c r).bind fun p => (truth p.1.d).bind fun t => if t then evE φ a p.2 else evE φ b p.2
  | .chain p q a b c, r => (evE φ a r).bind fun x => (evE φ b x.2).bind fun y => (prim p [x.1.d, y.1.d]).bind fun v => (truth v.d).bind fun t =>
      if t then (evE φ c y.2).bind fun z => (prim q [y.1.d, z.1.d]).map fun v' => (v', z.2) else some (v, y.2)
  | .lc elt tg it cond vs, r => (evI φ it r).bind fun p => (loopLc (fun x r1 => (setT tg x r1).bind fun r2 => (evC φ cond r2).bind fun q => if q.1 then (evE φ elt q.2).map fun y => (some y.1.d, y.2) else some (none, q.2)) vs p.1 [] p.2).map fun q => (.own none (.list q.1), restR p.2 q.2 vs)
  | .lc2 elt tg it c1 tg2 it2 c2 vs vs2, r => (evI φ it r).bind fun p => (loopLc2 (fun x r1 => (setT tg x r1).bind fun r2 => (evC φ c1 r2).bind fun q => if q.1 then (evI φ it2 q.2).map fun z => (some z.1, z.2) else some (none, q.2))
      (fun x r1 => (setT tg2 x r1).bind fun r2 => (evC φ c2 r2).bind fun q => if q.1 then (evE φ elt q.2).map fun y => (some y.1.d, y.2) else some (none, q.2)) vs vs2 p.1 [] p.2).map fun q => (.own none (.list q.1), restR p.2 q.2 vs)
  | .sl2 a lo hi, r => (evO φ a r).bind fun q => (evE φ lo q.2).bind fun x => (evE φ hi x.2).bind fun y => (rdOs y.2 q.1).bind fun ds => (pSl true true (ds ++ [x.1.d, y.1.d])).map fun v => (v, y.2)
  | .index o e, r => (evO φ o r).bind fun q => (rdOs q.2 q.1).bind fun os => if isListD os then (evE φ e q.2).bind fun x => (rdOs x.2 q.1).bind fun ds => (p2 pIndex (ds ++ [x.1.d])).map fun v => (v, x.2) else none
  | .popAt i e, r => if ownL r i then (evE φ e r).bind fun p => match p.1.d, p.2[i]? with
    | .int k, some (some (.own t (.list ds))) => (ixD ds.length k).bind fun j => (ds[j]?).map fun d => (.dat d, p.2.set i (some (.own t (.list (ds.eraseIdx j)))))
    | _, _ => none
    else none
def evC (φ : Fn) : Option E → Rho → Option (Bool × Rho)
  | none, r => some (true, r)
  | some c, r => (evE φ c r).bind fun q => (truth q.1.d).map fun t => (t, q.2)
def evL (φ : Fn) : List E → Rho → Option (List PyData × Rho)
  | [], r => some ([], r)
  | .star e :: es, r => (evE φ e r).bind fun p => (seqOf p.1.d).bind fun xs => (evL φ es p.2).map fun q => (xs ++ q.1, q.2)
  | e :: es, r => (evE φ e r).bind fun p => (evL φ es p.2).map fun q => (p.1.d :: q.1, q.2)
def evO (φ : Fn) : List E → Rho → Option (List Opd × Rho)
  | [], r => some ([], r)
  | .var i :: es, r => match r[i]? with
    | some (some _) => (evO φ es r).map fun q => (.inl i :: q.1, q.2)
    | _ => none
  | e :: es, r => (evE φ e r).bind fun p => (evO φ es p.2).map fun q => (.inr p.1.d :: q.1, q.2)
def evA (φ : Fn) : List E → List Bool → Rho → Option (List SV × Back × Rho)
  | [], _, r => some ([], none, r)
  | e :: es, mu, r => match bArg (mu.headD false) e with
    | some i => match r[i]? with
      | some (some (.own _ _)) => (evA φ es mu.tail r).bind fun q => if q.2.1.isNone then match q.2.2[i]? with
        | some (some (.own t d)) => some (.own none d :: q.1, some (0, i, t), q.2.2.set i none)
        | _ => none
        else none
      | some (some (.dat d)) => (evA φ es mu.tail r).map fun q => (.dat d :: q.1, upB q.2.1, q.2.2)
      | _ => none
    | none => (evE φ e r).bind fun p => (evA φ es mu.tail p.2).map fun q => ((if mu.headD false then p.1 else .dat p.1.d) :: q.1, upB q.2.1, q.2.2)
def evI (φ : Fn) : It → Rho → Option (List PyData × Rho)
  | .seq e, r => (evE φ e r).bind fun p => (seqOf p.1.d).map fun xs => (xs, p.2)
  | .rng1 e, r => (evE φ e r).bind fun p => match p.1.d with
    | .int n => if okRg 0 n then some (rgD 0 n, p.2) else none
    | _ => none
  | .rng2 a b, r => (evE φ a r).bind fun p => (evE φ b p.2).bind fun q => match p.1.d, q.1.d with
    | .int x, .int y => if okRg x y then some (rgD x y, q.2) else none
    | _, _ => none
  | .enum e, r => (evE φ e r).bind fun p => (seqOf p.1.d).map fun xs => (enumD 0 xs, p.2)
  | .zip a b, r => (evE φ a r).bind fun p => (evE φ b p.2).bind fun q => (seqOf p.1.d).bind fun xs => (seqOf q.1.d).map fun ys => (zipD xs ys, q.2)
  | .enumzip a b, r => (evE φ a r).bind fun p => (evE φ b p.2).bind fun q => (seqOf p.1.d).bind fun xs => (seqOf q.1.d).map fun ys => (enumD 0 (zipD xs ys), q.2)
end
def evT (φ : Fn) (e : E) (r : Rho) : Option (Bool × Rho) := (evE φ e r).bind fun p => (truth p.1.d).map fun t => (t, p.2)
/-- several values at once, lists kept as owned -/
def evV (φ : Fn) : List E → Rho → Option (List SV × Rho)
  | [], r => some ([], r)
  | e :: es, r => (evE φ e r).bind fun p => (evV φ es p.2).map fun q => (p.1 :: q.1, q.2)
def setV (v : SV) : SV := match v with
  | .dat d => .dat d
  | .own _ d => .own none d
def setVs : List Nat → List SV → Rho → Option Rho
  | [], [], r => some r
  | i :: is, v :: vs, r => setVs is vs (r.set i (some (setV v)))
  | _, _, _ => none
mutual
def evS (φ : Fn) : S → Rho → Option (Fl × Rho)
  | .asg i e, r => (evE φ e r).map fun p => (.nx, p.2.set i (some (setV p.1)))
  | .pasg is es, r => (evV φ es r).bind fun p => (setVs is p.1 p.2).map fun r' => (.nx, r')
  | .uasg ts e, r => (evE φ e r).bind fun p => (setT (.tup ts) p.1.d p.2).map fun r' => (.nx, r')
  | .seti i ix e, r => (evE φ e r).bind fun p => if ownL p.2 i then (evE φ ix p.2).bind fun q => match q.1.d, q.2[i]? with
    | .int k, some (some (.own t (.list ds))) => (ixD ds.length k).map fun j => (.nx, q.2.set i (some (.own t (.list (ds.set j p.1.d)))))
    | _, _ => none
    else none
  | .app i e, r => if ownL r i then (evE φ e r).bind fun p => match p.2[i]? with
    | some (some (.own t (.list ds))) => if ds.length < szl then some (.nx, p.2.set i (some (.own t (.list (ds ++ [p.1.d]))))) else none
    | _ => none
    else none
  | .ext i e, r => if ownL r i then (evE φ e r).bind fun p => match p.1.d, p.2[i]? with
    | .list xs, some (some (.own t (.list ds))) => if ds.length + xs.length ≤ szl then some (.nx, p.2.set i (some (.own t (.list (ds ++ xs))))) else none
    | _, _ => none
    else none
  | .expr e, r => (evE φ e r).map fun p => (.nx, p.2)
  | .ite c a b, r => (evT φ c r).bind fun q => if q.1 then evSs φ a q.2 else evSs φ b q.2
  | .forS tg it body, r => (evI φ it r).bind fun p => loopFor (fun x r1 => (setT tg x r1).bind fun r2 => evSs φ body r2) p.1 p.2
  | .whileS c body, r => loopWh (fun r1 => evT φ c r1) (fun r1 => evSs φ body r1) wfuel r
  | .ret (.var i), r => match r[i]? with
    | some (some (.dat d)) => some (.ret (.dat d), r)
    | some (some (.own _ d)) => some (.ret (.own none d), r.set i none)
    | _ => none
  | .ret e, r => (evE φ e r).map fun p => (.ret p.1, p.2)
  | .retN, r => some (.ret (.dat .none), r)
  | .pass, r => some (.nx, r)
  | .brk, r => some (.brk, r)
  | .cont, r => some (.cont, r)
  | .never, _ => none
def evSs (φ : Fn) : List S → Rho → Option (Fl × Rho)
  | [], r => some (.nx, r)
  | s :: ss, r => (evS φ s r).bind fun p => match p.1 with
    | .nx => evSs φ ss p.2
    | f => some (f, p.2)
end
structure FnD where
  np : Nat
  nv : Nat
  body : List S
def runFn (φ : Fn) (d : FnD) (as : List SV) : Option (SV × Rho) :=
  if as.length = d.np then (evSs φ d.body (tagA 0 as ++ List.replicate (d.nv - d.np) none)).bind fun p => match p.1 with
    | .ret v => some (v, p.2)
    | .nx => some (.dat .none, p.2)
    | _ => none
  else none
def phi (pg : List (Str × FnD)) : Nat → Fn
  | 0, _, _ => none
  | n + 1, f, as => (pg.lookup f).bind fun d => runFn (phi pg n) d as
end LI

set_option Elab.async false
set_option linter.all false
set_option autoImplicit false
set_option maxRecDepth 100000
set_option maxHeartbeats 4000000
namespace LI
open PySem PySem.Spec PyProof.Rows L2

abbrev Fg := PySem.W.Frag
abbrev Sg := L2.St
mutual
inductive Rp (K : Fg) (H : Hp) : V → PyData → Prop
  | non : Rp K H .non .none
  | bl (b : Bool) : Rp K H (.bl b) (.bool b)
  | int (i : Int) : Rp K H (.int i) (.int i)
  | str (x : Str) : Rp K H (.str x) (.str x)
  | lst {a : Addr} {xs : List V} {ds : List PyData} : H a = some (.lst xs) → xs.length ≤ sizeLine → RpAll K H xs ds → Rp K H (.ref a) (.list ds)
  | scr {a : Addr} {xs : List V} {ds : List PyData} {e : PyData} : SqL K H a xs → xs.length ≤ sizeLine → RpAll K H xs ds → Rp K H (.ref a) (.dict [(.list ds, e)])
  | tup {a : Addr} {xs : List V} {ds : List PyData} : H a = some (.tup xs) → xs.length ≤ sizeLine → RpAll K H xs ds → Rp K H (.ref a) (.tuple ds)
  | dct {a : Addr} {kvs : List (List Key × V)} {ds : List (PyData × PyData)} : H a = some (.dT kvs) → RpKv K H kvs ds → Rp K H (.ref a) (.dict ds)
inductive RpKv (K : Fg) (H : Hp) : List (List Key × V) → List (PyData × PyData) → Prop
  | nil : RpKv K H [] []
  | cons {k : List Key} {v : V} {d : PyData} {kvs : List (List Key × V)} {ds : List (PyData × PyData)} : Rp K H v d → RpKv K H kvs ds → RpKv K H ((k, v) :: kvs) ((.tuple (k.map keyD), d) :: ds)
inductive RpAll (K : Fg) (H : Hp) : List V → List PyData → Prop
  | nil : RpAll K H [] []
  | cons {v : V} {vs : List V} {d : PyData} {ds : List PyData} : Rp K H v d → RpAll K H vs ds → RpAll K H (v :: vs) (d :: ds)
end
theorem same_sqT {K : Fg} {H H' : Hp} {a : Addr} {xs : List V} (e : Same H H') (h : SqT K H a xs) : SqT K H' a xs := by
  rcases h with (h | ⟨o, h⟩) | h
  · exact .inl (.inl (e _ _ h))
  · exact .inl (.inr ⟨o, e _ _ h⟩)
  · exact .inr h
theorem same_rd {H H' : Hp} {a : Addr} {u : HO} (e : Same H H') (h : Rd H a u) : Rd H' a u := by
  rcases h with h | ⟨o, h⟩
  · exact .inl (e _ _ h)
  · exact .inr ⟨o, e _ _ h⟩
section
variable {K : Fg} {H H' : Hp}
mutual
theorem Rp.mono (e : Same H H') : ∀ {v : V} {d : PyData}, Rp K H v d → Rp K H' v d
  | _, _, .non => .non
  | _, _, .bl b => .bl b
  | _, _, .int i => .int i
  | _, _, .str x => .str x
  | _, _, .lst h z r => .lst (e _ _ h) z (RpAll.mono e r)
  | _, _, .scr h z r => .scr (e.seq h) z (RpAll.mono e r)
  | _, _, .tup h z r => .tup (e _ _ h) z (RpAll.mono e r)
  | _, _, .dct h r => .dct (e _ _ h) (RpKv.mono e r)
theorem RpKv.mono (e : Same H H') : ∀ {v : List (List Key × V)} {d : List (PyData × PyData)}, RpKv K H v d → RpKv K H' v d
  | _, _, .nil => .nil
  | _, _, .cons r t => .cons (Rp.mono e r) (RpKv.mono e t)
theorem RpAll.mono (e : Same H H') : ∀ {v : List V} {d : List PyData}, RpAll K H v d → RpAll K H' v d
  | _, _, .nil => .nil
  | _, _, .cons r t => .cons (Rp.mono e r) (RpAll.mono e t)
end
mutual
theorem Rp.dp : ∀ {v : V} {d : PyData}, Rp K H v d → d.canLay0 = true → Dp K H v d
  | _, _, .non, _ => .non
  | _, _, .bl b, _ => .bl b
  | _, _, .int i, _ => .int i
  | _, _, .str x, _ => .str x
  | _, _, .lst h z r, c => .lst (SqL.of h) (RpAll.dp r (by simpa [PyData.canLay0] using c))
  | _, _, .tup h z r, c => .tup (SqT.of h) (RpAll.dp r (by simpa [PyData.canLay0] using c))
  | _, _, .dct h r, c => by simp [PyData.canLay0] at c
  | _, _, .scr h z r, c => by simp [PyData.canLay0] at c
theorem RpAll.dp : ∀ {v : List V} {d : List PyData}, RpAll K H v d → PyData.canLayAll0 d = true → DpAll K H v d
  | _, _, .nil, _ => .nil
  | _, _, .cons r t, c => by
    rw [PyData.canLayAll0, Bool.and_eq_true] at c
    exact .cons (Rp.dp r c.1) (RpAll.dp t c.2)
end
theorem RpAll.length : ∀ {vs : List V} {ds : List PyData}, RpAll K H vs ds → vs.length = ds.length
  | _, _, .nil => rfl
  | _, _, .cons _ t => by rw [List.length_cons, List.length_cons, t.length]
theorem RpAll.get : ∀ {vs : List V} {ds : List PyData} {i : Nat} {d : PyData}, RpAll K H vs ds → ds[i]? = some d → ∃ v, vs[i]? = some v ∧ Rp K H v d
  | _, _, _, _, .nil, e => by simp at e
  | _, _, 0, _, .cons r _, e => by simp at e; subst e; exact ⟨_, rfl, r⟩
  | _, _, i + 1, d, .cons _ t, e => by
    obtain ⟨v, h1, h2⟩ := t.get (i := i) (d := d) (by simpa using e)
    exact ⟨v, by simpa using h1, h2⟩
theorem RpAll.app : ∀ {vs ws : List V} {ds es : List PyData}, RpAll K H vs ds → RpAll K H ws es → RpAll K H (vs ++ ws) (ds ++ es)
  | _, _, _, _, .nil, s => s
  | _, _, _, _, .cons r t, s => .cons r (t.app s)
theorem RpAll.tk : ∀ {vs : List V} {ds : List PyData} (n : Nat), RpAll K H vs ds → RpAll K H (vs.take n) (ds.take n)
  | _, _, 0, _ => .nil
  | _, _, _ + 1, .nil => .nil
  | _, _, n + 1, .cons r t => .cons r (t.tk n)
theorem RpAll.dr : ∀ {vs : List V} {ds : List PyData} (n : Nat), RpAll K H vs ds → RpAll K H (vs.drop n) (ds.drop n)
  | _, _, 0, t => t
  | _, _, _ + 1, .nil => .nil
  | _, _, n + 1, .cons _ t => t.dr n
theorem RpAll.st {v : V} {d : PyData} (r : Rp K H v d) : ∀ {vs : List V} {ds : List PyData} (n : Nat), RpAll K H vs ds → RpAll K H (vs.set n v) (ds.set n d)
  | _, _, _, .nil => .nil
  | _, _, 0, .cons _ t => .cons r t
  | _, _, n + 1, .cons q t => .cons q (t.st r n)
theorem RpAll.er : ∀ {vs : List V} {ds : List PyData} (n : Nat), RpAll K H vs ds → RpAll K H (vs.eraseIdx n) (ds.eraseIdx n)
  | _, _, _, .nil => .nil
  | _, _, 0, .cons _ t => t
  | _, _, n + 1, .cons q t => .cons q (t.er n)
theorem RpAll.rp {vs : List V} {ds : List PyData} (h : RpAll K H vs ds) : ∀ n : Nat, RpAll K H (List.replicate n vs).flatten (List.replicate n ds).flatten
  | 0 => .nil
  | n + 1 => by rw [List.replicate_succ, List.replicate_succ, List.flatten_cons, List.flatten_cons]; exact h.app (h.rp n)
theorem RpAll.intv : ∀ (ns : List Int), RpAll K H (ns.map V.int) (ns.map PyData.int)
  | [] => .nil
  | n :: r => .cons (.int n) (RpAll.intv r)
theorem RpAll.ofInts : ∀ {vs : List V} {ds : List PyData} {ns : List Int}, RpAll K H vs ds → intsD ds = some ns → vs = ns.map V.int
  | _, _, _, .nil, e => by simp [intsD] at e; subst e; rfl
  | _, _, ns, .cons (d := d) (ds := ds) r t, e => by
    cases d with
    | int i =>
      simp only [intsD, Option.map_eq_some_iff] at e
      obtain ⟨ms, h, rfl⟩ := e
      cases r
      rw [t.ofInts h]; rfl
    | _ => simp [intsD] at e
theorem RpAll.ofBools : ∀ {vs : List V} {ds : List PyData} {ns : List Bool}, RpAll K H vs ds → boolsD ds = some ns → vs = ns.map V.bl
  | _, _, _, .nil, e => by simp [boolsD] at e; subst e; rfl
  | _, _, ns, .cons (d := d) (ds := ds) r t, e => by
    cases d with
    | bool i =>
      simp only [boolsD, Option.map_eq_some_iff] at e
      obtain ⟨ms, h, rfl⟩ := e
      cases r
      rw [t.ofBools h]; rfl
    | _ => simp [boolsD] at e
end

/-! ### the state -/
def ObR (K : Fg) (Hf : Hp) (o : HO) (d : PyData) : Prop := ∃ xs ds, o = .lst xs ∧ d = .list ds ∧ xs.length ≤ sizeLine ∧ RpAll K Hf xs ds
theorem ObR.mono {K : Fg} {H H' : Hp} {o : HO} {d : PyData} (h : ObR K H o d) (e : Same H H') : ObR K H' o d := by
  obtain ⟨xs, ds, h1, h2, h3, h4⟩ := h
  exact ⟨xs, ds, h1, h2, h3, h4.mono e⟩
def Owns (σ : Sg) (ρ : Rho) (a : Addr) : Prop := ∃ (i : Nat) (t : Option Nat) (d : PyData), ρ[i]? = some (some (.own t d)) ∧ σ[i]? = some (some (.ref a))
structure SRel (K : Fg) (B : List V) (σ : Sg) (H Hf : Hp) (ρ : Rho) : Prop where
  sub : Same Hf H
  len : ρ.length = σ.length
  dat : ∀ (i : Nat) (d : PyData), ρ[i]? = some (some (.dat d)) → ∃ v, σ[i]? = some (some v) ∧ Rp K Hf v d
  own : ∀ (i : Nat) (t : Option Nat) (d : PyData), ρ[i]? = some (some (.own t d)) → ∃ a o, σ[i]? = some (some (.ref a)) ∧ H a = some o ∧ Hf a = none ∧ ObR K Hf o d ∧ (∀ j, t = some j → i = j ∧ B[j]? = some (.ref a))
  dis : ∀ (i j : Nat) (t u : Option Nat) (d e : PyData) (a : Addr), ρ[i]? = some (some (.own t d)) → ρ[j]? = some (some (.own u e)) → σ[i]? = some (some (.ref a)) → σ[j]? = some (some (.ref a)) → i = j
structure Step (σ : Sg) (ρ : Rho) (H Hf : Hp) (σ' : Sg) (ρ' : Rho) (H' Hf' : Hp) : Prop where
  fz : Same Hf Hf'
  keep : ∀ a o, H a = some o → ¬ Owns σ ρ a → H' a = some o
  new : ∀ a, Hf' a ≠ none → Hf a ≠ none ∨ H a = none ∨ Owns σ ρ a
  own : ∀ a, Owns σ' ρ' a → Owns σ ρ a ∨ H a = none
theorem Step.refl {σ : Sg} {ρ : Rho} {H Hf : Hp} : Step σ ρ H Hf σ ρ H Hf := ⟨Same.refl _, fun _ _ h _ => h, fun _ h => .inl h, fun _ h => .inl h⟩
theorem Step.trans {σ σ1 σ2 : Sg} {ρ ρ1 ρ2 : Rho} {H H1 H2 Hf Hf1 Hf2 : Hp} (a : Step σ ρ H Hf σ1 ρ1 H1 Hf1) (b : Step σ1 ρ1 H1 Hf1 σ2 ρ2 H2 Hf2) : Step σ ρ H Hf σ2 ρ2 H2 Hf2 := by
  have nn : ∀ c, H1 c = none → H c = none ∨ Owns σ ρ c := fun c h => by
    cases e : H c with
    | none => exact .inl rfl
    | some o =>
      by_cases q : Owns σ ρ c
      · exact .inr q
      · rw [a.keep c o e q] at h; cases h
  refine ⟨a.fz.trans b.fz, fun c o h n => ?_, fun c h => ?_, fun c h => ?_⟩
  · have h1 := a.keep c o h n
    refine b.keep c o h1 fun q => ?_
    rcases a.own c q with z | z
    · exact n z
    · rw [h] at z; cases z
  · rcases b.new c h with z | z | z
    · exact a.new c z
    · rcases nn c z with y | y
      · exact .inr (.inl y)
      · exact .inr (.inr y)
    · rcases a.own c z with y | y
      · exact .inr (.inr y)
      · exact .inr (.inl y)
  · rcases b.own c h with z | z
    · exact a.own c z
    · rcases nn c z with y | y
      · exact .inr y
      · exact .inl y
/-- a value: frozen data, or a list that nobody else holds -/
def RpV (K : Fg) (σ : Sg) (ρ : Rho) (H : Hp) (σ' : Sg) (ρ' : Rho) (H' Hf' : Hp) (v : V) : SV → Prop
  | .dat d => Rp K Hf' v d
  | .own _ d => ∃ a o, v = .ref a ∧ H' a = some o ∧ Hf' a = none ∧ ObR K Hf' o d ∧ ¬ Owns σ' ρ' a ∧ (H a = none ∨ Owns σ ρ a)
theorem same_upd {H Hf : Hp} {a : Addr} {o : HO} (s : Same Hf H) (h : H a = some o) : Same (upd Hf a o) H := fun b u e => by
  by_cases z : b = a
  · subst z; rw [upd_same] at e; cases e; exact h
  · rw [upd_ne z] at e; exact s b u e
theorem same_new {Hf : Hp} {a : Addr} {o : HO} (h : Hf a = none) : Same Hf (upd Hf a o) := fun b u e => by rw [upd_ne (ne_of_none e h)]; exact e
theorem ObR.rp {K : Fg} {Hf : Hp} {a : Addr} {o : HO} {d : PyData} (h : ObR K Hf o d) (n : Hf a = none) : Rp K (upd Hf a o) (.ref a) d := by
  obtain ⟨xs, ds, rfl, rfl, h3, h4⟩ := h
  exact .lst upd_same h3 (h4.mono (same_new n))
/-- freezing what nobody owns -/
theorem SRel.freeze {K : Fg} {B : List V} {σ : Sg} {H Hf : Hp} {ρ : Rho} {a : Addr} {o : HO} (s : SRel K B σ H Hf ρ) (h : H a = some o) (n : Hf a = none) (no : ¬ Owns σ ρ a) : SRel K B σ H (upd Hf a o) ρ := by
  refine ⟨same_upd s.sub h, s.len, fun i d e => ?_, fun i t d e => ?_, s.dis⟩
  · obtain ⟨v, h1, h2⟩ := s.dat i d e
    exact ⟨v, h1, h2.mono (same_new n)⟩
  · obtain ⟨b, u, h1, h2, h3, h4, h5⟩ := s.own i t d e
    have hb : b ≠ a := fun z => no ⟨i, t, d, e, by rw [← z]; exact h1⟩
    exact ⟨b, u, h1, h2, by rw [upd_ne hb]; exact h3, h4.mono (same_new n), h5⟩
theorem Step.freeze {σ σ' : Sg} {ρ ρ' : Rho} {H Hf H' Hf' : Hp} {a : Addr} {o : HO} (s : Step σ ρ H Hf σ' ρ' H' Hf') (n : Hf' a = none) (f : H a = none ∨ Owns σ ρ a) : Step σ ρ H Hf σ' ρ' H' (upd Hf' a o) := by
  refine ⟨s.fz.trans (same_new n), s.keep, fun c h => ?_, s.own⟩
  by_cases z : c = a
  · subst z; exact .inr f
  · rw [upd_ne z] at h; exact s.new c h
/-! ### what it is that an expression is described by ev -/
def SndE (X : Cx) (e : Expr) (ev : Rho → Option (SV × Rho)) : Prop :=
  ∃ te, PE X e te ∧ ∀ (B : List V) (σ : Sg) (H Hf : Hp) (ρ ρ' : Rho) (r : SV) (Q : VK), SRel X.K B σ H Hf ρ → ev ρ = some (r, ρ') →
    (∀ v H' Hf', SRel X.K B σ H' Hf' ρ' → Step σ ρ H Hf σ ρ' H' Hf' → RpV X.K σ ρ H σ ρ' H' Hf' v r → Q v H') → te σ H Q
/-- the same, frozen -/
theorem frz {K : Fg} {B : List V} {σ σ' : Sg} {H Hf H' Hf' : Hp} {ρ ρ' : Rho} {v : V} {r : SV} (s : SRel K B σ' H' Hf' ρ') (t : Step σ ρ H Hf σ' ρ' H' Hf') (h : RpV K σ ρ H σ' ρ' H' Hf' v r) :
    ∃ Hf'', SRel K B σ' H' Hf'' ρ' ∧ Step σ ρ H Hf σ' ρ' H' Hf'' ∧ Rp K Hf'' v r.d := by
  cases r with
  | dat d => exact ⟨Hf', s, t, h⟩
  | own u d =>
    obtain ⟨a, o, rfl, h2, h3, h4, h5, h6⟩ := h
    exact ⟨upd Hf' a o, s.freeze h2 h3 h5, t.freeze h3 h6, h4.rp h3⟩
def SndT (X : Cx) (e : Expr) (ev : Rho → Option (Bool × Rho)) : Prop :=
  ∃ te, PT X e te ∧ ∀ (B : List V) (σ : Sg) (H Hf : Hp) (ρ ρ' : Rho) (r : Bool) (Q : Bool → Hp → Prop), SRel X.K B σ H Hf ρ → ev ρ = some (r, ρ') →
    (∀ H' Hf', SRel X.K B σ H' Hf' ρ' → Step σ ρ H Hf σ ρ' H' Hf' → Q r H') → te σ H Q
def SndL (X : Cx) (es : List Expr) (ev : Rho → Option (List PyData × Rho)) : Prop :=
  ∃ ta, PA X es ta ∧ ∀ (B : List V) (σ : Sg) (H Hf : Hp) (ρ ρ' : Rho) (ds : List PyData) (Q : List V → Hp → Prop), SRel X.K B σ H Hf ρ → ev ρ = some (ds, ρ') →
    (∀ vs H' Hf', SRel X.K B σ H' Hf' ρ' → Step σ ρ H Hf σ ρ' H' Hf' → RpAll X.K Hf' vs ds → Q vs H') → ta σ H Q
section
variable {X : Cx}
theorem SndE.dt {e : Expr} {ev : Rho → Option (SV × Rho)} (h : SndE X e ev) : ∃ te, PE X e te ∧ ∀ (B : List V) (σ : Sg) (H Hf : Hp) (ρ ρ' : Rho) (r : SV) (Q : VK), SRel X.K B σ H Hf ρ → ev ρ = some (r, ρ') →
    (∀ v H' Hf', SRel X.K B σ H' Hf' ρ' → Step σ ρ H Hf σ ρ' H' Hf' → Rp X.K Hf' v r.d → Q v H') → te σ H Q := by
  obtain ⟨te, h1, h2⟩ := h
  refine ⟨te, h1, fun B σ H Hf ρ ρ' r Q s e q => h2 B σ H Hf ρ ρ' r Q s e fun v H' Hf' s' t' h' => ?_⟩
  obtain ⟨Hf'', a, b, c⟩ := frz s' t' h'
  exact q v H' Hf'' a b c
/-! ### names, constants -/
theorem snd_var {φ : Fn} {i : Nat} {x : Str} {pos : Pos} (hN : X.N[i]? = some x) (hv : Vis X.env.scope x) (hd : (x == ("__debug__" : Str)) = false) (hcd : (x == ("__classdict__" : Str)) = false) : SndE X (.Name x pos) (evE φ (.var i)) := by
  refine ⟨_, pe_var hN hv hd hcd, fun B σ H Hf ρ ρ' r Q s e q => ?_⟩
  simp only [evE] at e
  split at e
  · rename_i d hd
    cases e
    obtain ⟨v, h1, h2⟩ := s.dat i d hd
    exact ⟨v, h1, q v H Hf s Step.refl h2⟩
  · rename_i t d hd
    cases e
    obtain ⟨a, o, h1, h2, h3, h4, h5⟩ := s.own i t d hd
    have hi : i < ρ.length := (List.getElem?_eq_some_iff.mp hd).1
    refine ⟨.ref a, h1, q _ H (upd Hf a o) ?_ ?_ (h4.rp h3)⟩
    · refine ⟨same_upd s.sub h2, by rw [List.length_set]; exact s.len, fun j d' e => ?_, fun j t' d' e => ?_, fun j k t' u d' e' b h7 h8 h9 h10 => ?_⟩
      · by_cases z : i = j
        · subst z
          rw [List.getElem?_set_self hi] at e
          cases e
          exact ⟨_, h1, h4.rp h3⟩
        · rw [List.getElem?_set_ne z] at e
          obtain ⟨v, h7, h8⟩ := s.dat j d' e
          exact ⟨v, h7, h8.mono (same_new h3)⟩
      · by_cases z : i = j
        · subst z
          rw [List.getElem?_set_self hi] at e
          cases e
        · rw [List.getElem?_set_ne z] at e
          obtain ⟨b, u, h7, h8, h9, h10, h11⟩ := s.own j t' d' e
          have hb : b ≠ a := fun y => z (s.dis i j t t' d d' a hd e h1 (by rw [← y]; exact h7))
          exact ⟨b, u, h7, h8, by rw [upd_ne hb]; exact h9, h10.mono (same_new h3), h11⟩
      · have n1 : i ≠ j := fun z => by subst z; rw [List.getElem?_set_self hi] at h7; cases h7
        have n2 : i ≠ k := fun z => by subst z; rw [List.getElem?_set_self hi] at h8; cases h8
        rw [List.getElem?_set_ne n1] at h7
        rw [List.getElem?_set_ne n2] at h8
        exact s.dis j k t' u d' e' b h7 h8 h9 h10
    · refine ⟨same_new h3, fun _ _ h _ => h, fun c h => ?_, fun c h => ?_⟩
      · by_cases z : c = a
        · subst z; exact .inr (.inr ⟨i, t, d, hd, h1⟩)
        · rw [upd_ne z] at h; exact .inl h
      · obtain ⟨j, t', d', h7, h8⟩ := h
        have n1 : i ≠ j := fun z => by subst z; rw [List.getElem?_set_self hi] at h7; cases h7
        rw [List.getElem?_set_ne n1] at h7
        exact .inl ⟨j, t', d', h7, h8⟩
  · cases e
theorem snd_cst {φ : Fn} {e : Expr} {v : V} {d : PyData} (he : PE X e (tC v)) (h : ∀ H, Rp X.K H v d) : SndE X e (evE φ (.cst d)) := by
  refine ⟨_, he, fun B σ H Hf ρ ρ' r Q s e q => ?_⟩
  simp only [evE] at e
  cases e
  exact q v H Hf s Step.refl (h _)
end
end LI

set_option Elab.async false
set_option linter.all false
set_option autoImplicit false
set_option maxRecDepth 100000
set_option maxHeartbeats 4000000
namespace LI
open PySem PySem.Spec PyProof.Rows L2

/-! ### argument lists -/
def noStar : Expr → Bool
  | .Starred _ _ => false
  | _ => true
theorem starEach_no {e : Expr} {es : List Expr} {env : Env} (h : noStar e = true) : starEach (e :: es) env = (false, eval e env) :: starEach es env := by
  cases e <;> first | rfl | (simp [noStar] at h)
theorem any_no {env : Env} {pos : Pos} : ∀ {es : List Expr}, es.all noStar = true → (backTo pos (starEach es env)).any (·.1) = false
  | [], _ => rfl
  | e :: es, h => by
    have h' : noStar e = true ∧ es.all noStar = true := by simpa using h
    rw [starEach_no h'.1]
    show (false || (backTo pos (starEach es env)).any (·.1)) = false
    rw [any_no h'.2]; rfl
section
variable {X : Cx}
def tStar (K : Fg) (te : TE) (ta : TA) : TA := fun σ H Q => te σ H fun x H1 => ∃ a xs, x = .ref a ∧ (SqL K H1 a xs ∨ SqT K H1 a xs) ∧ ta σ H1 fun ys H2 => Q (xs ++ ys) H2
theorem pa_star {e : Expr} {es : List Expr} {te : TE} {t : TA} {p : Pos} (he : PE X e te) (hr : PA X es t) : PA X (.Starred e p :: es) (tStar X.K te t) := by
  refine ⟨fun pos pins s σ H Q I h => ?_⟩
  refine PySem.W.items_star (thn (he.run pins s σ H _ I h) fun u s1 ⟨x, H1, I1, r1, q1⟩ => ?_)
  obtain ⟨a, xs, rfl, hq, q⟩ := q1
  cases r1
  have go : ∀ (its : List Value) (T : String) (o : Obj) (n : Nat), (T = "list" ∨ T = "tuple") → s1.heap.get? a = some o → o.cls = .type T → o.data = .seq its.toArray n → Vals xs its → xs.length ≤ sizeLine →
      PySem.W.StarOf (model X.prog X.w) X.A X.xe (.ref a) (fun here s2 => wpAny (model X.prog X.w) X.A (spliced (backTo pos (starEach es X.env))) (fun vs s3 => AP X pins σ Q (here ++ vs) s3) X.xe s2) s1 := by
    intro its T o n hT ho hc hd rv hz
    have z : wpAny (model X.prog X.w) X.A (collect (.ref a)) (fun here s2 => wpAny (model X.prog X.w) X.A (spliced (backTo pos (starEach es X.env))) (fun vs s3 => AP X pins σ Q (here ++ vs) s3) X.xe s2) X.xe s1 := by
      refine wpAny_collect_seq a hT ho hc hd (fun h' hk => ?_) (by rw [List.size_toArray, ← rv.length]; exact hz)
      have I2 : Inv X pins σ H1 { s1 with heap := h' } := I1.kept (t' := s1.toks) hk
      refine thn (hr.run pos pins _ σ H1 _ I2 q) fun us s3 ⟨ys, H3, I3, r3, q3⟩ => ⟨xs ++ ys, H3, I3, ?_, q3⟩
      exact Vals.append rv r3
    have hTy : s1.TypeIs (.ref a) T := ⟨o, ho, hc⟩
    unfold PySem.W.StarOf notIterableAtAll
    rcases hT with rfl | rfl
    · exact wpAny_bind (wpAny_specialOf hTy PySem.F.slot_list_iter.lookup (wpAny_pure ⟨rfl, z⟩))
    · exact wpAny_bind (wpAny_specialOf hTy PySem.F.slot_tuple_iter.lookup (wpAny_pure ⟨rfl, z⟩))
  rcases hq with hq | hq
  · obtain ⟨its, rv, ⟨o, n, ho, hc, _, hd⟩, hz⟩ := I1.list hq
    exact go its "list" o n (.inl rfl) ho hc hd rv hz
  · obtain ⟨its, rv, ⟨o, ho, hc, n, hd⟩, hz⟩ := I1.tuple hq
    exact go its "tuple" o n (.inr rfl) ho hc hd rv hz

theorem sndL_nil {φ : Fn} : SndL X [] (evL φ []) := by
  refine ⟨_, pa_nil, fun B σ H Hf ρ ρ' ds Q s e q => ?_⟩
  simp only [evL] at e
  cases e
  exact q [] H Hf s Step.refl .nil
theorem RpSeq {K : Fg} {H : Hp} {v : V} {d : PyData} {xs : List PyData} (h : Rp K H v d) (e : seqOf d = some xs) : ∃ a ys, v = .ref a ∧ (SqL K H a ys ∨ SqT K H a ys) ∧ ys.length ≤ sizeLine ∧ RpAll K H ys xs := by
  cases h with
  | lst h z r => simp only [seqOf] at e; cases e; exact ⟨_, _, rfl, .inl (SqL.of h), z, r⟩
  | tup h z r => simp only [seqOf] at e; cases e; exact ⟨_, _, rfl, .inr (SqT.of h), z, r⟩
  | _ => simp [seqOf] at e
def isStarE : E → Bool
  | .star _ => true
  | _ => false
theorem evL_cons {φ : Fn} {c : E} {cs : List E} {r : Rho} (h : isStarE c = false) : evL φ (c :: cs) r = (evE φ c r).bind fun p => (evL φ cs p.2).map fun q => (p.1.d :: q.1, q.2) := by
  cases c <;> first | rfl | (simp [isStarE] at h)
theorem sndL_cons {φ : Fn} {e : Expr} {es : List Expr} {c : E} {cs : List E} (hc : isStarE c = false) (hs : noStar e = true) (h : SndE X e (evE φ c)) (t : SndL X es (evL φ cs)) : SndL X (e :: es) (evL φ (c :: cs)) := by
  obtain ⟨te, p1, h1⟩ := h.dt
  obtain ⟨ta, p2, h2⟩ := t
  refine ⟨_, pa_cons p1 p2 (starEach_no hs), fun B σ H Hf ρ ρ' ds Q s e q => ?_⟩
  rw [evL_cons hc] at e
  cases e1 : evE φ c ρ with
  | none => rw [e1] at e; cases e
  | some p =>
    rw [e1] at e
    obtain ⟨r, ρ1⟩ := p
    simp only [Option.bind_some, Option.map_eq_some_iff] at e
    obtain ⟨⟨ds2, ρ2⟩, e2, e3⟩ := e
    cases e3
    refine h1 B σ H Hf ρ ρ1 r _ s e1 fun v H1 Hf1 s1 t1 rv => ?_
    refine h2 B σ H1 Hf1 ρ1 ρ2 ds2 _ s1 e2 fun vs H2 Hf2 s2 t2 rvs => ?_
    exact q _ H2 Hf2 s2 (t1.trans t2) (.cons (rv.mono t2.fz) rvs)
theorem or_same {K : Fg} {H H' : Hp} {a : Addr} {ys : List V} (e : Same H H') (h : SqL K H a ys ∨ SqT K H a ys) : SqL K H' a ys ∨ SqT K H' a ys := h.elim (fun z => .inl (e.seq z)) (fun z => .inr (same_sqT e z))
theorem sndL_star {φ : Fn} {e : Expr} {p : Pos} {es : List Expr} {c : E} {cs : List E} (h : SndE X e (evE φ c)) (t : SndL X es (evL φ cs)) : SndL X (.Starred e p :: es) (evL φ (.star c :: cs)) := by
  obtain ⟨te, p1, h1⟩ := h.dt
  obtain ⟨ta, p2, h2⟩ := t
  refine ⟨_, pa_star p1 p2, fun B σ H Hf ρ ρ' ds Q s e q => ?_⟩
  simp only [evL] at e
  cases e1 : evE φ c ρ with
  | none => rw [e1] at e; cases e
  | some p =>
    rw [e1] at e
    obtain ⟨r, ρ1⟩ := p
    simp only [Option.bind_some] at e
    cases e4 : seqOf r.d with
    | none => rw [e4] at e; cases e
    | some xs =>
      rw [e4] at e
      simp only [Option.bind_some, Option.map_eq_some_iff] at e
      obtain ⟨⟨ds2, ρ2⟩, e2, e3⟩ := e
      cases e3
      refine h1 B σ H Hf ρ ρ1 r _ s e1 fun v H1 Hf1 s1 t1 rv => ?_
      obtain ⟨a, ys, rfl, hy, hz, ry⟩ := RpSeq rv e4
      refine ⟨a, ys, rfl, or_same s1.sub hy, h2 B σ H1 Hf1 ρ1 ρ2 ds2 _ s1 e2 fun vs H2 Hf2 s2 t2 rvs => ?_⟩
      exact q _ H2 Hf2 s2 (t1.trans t2) ((ry.mono t2.fz).app rvs)
/-! ### what is new -/
def PPost (K : Fg) (H Hf H' : Hp) (v : V) : SV → Prop
  | .dat d => Same H H' ∧ ∃ Hf', Same Hf Hf' ∧ Same Hf' H' ∧ (∀ a, Hf' a ≠ none → Hf a ≠ none ∨ H a = none) ∧ Rp K Hf' v d
  | .own _ d => Same H H' ∧ ∃ a o, v = .ref a ∧ H' a = some o ∧ H a = none ∧ ObR K Hf o d
theorem pp_same {K : Fg} {H Hf : Hp} {v : V} {d : PyData} (s : Same Hf H) (h : Rp K Hf v d) : PPost K H Hf H v (.dat d) := ⟨Same.refl _, Hf, Same.refl _, s, fun _ z => .inl z, h⟩
theorem pp_lst {K : Fg} {H Hf : Hp} {p : Addr} {zs : List V} {ds : List PyData} {t : Option Nat} (n : H p = none) (z : zs.length ≤ sizeLine) (h : RpAll K Hf zs ds) : PPost K H Hf (upd H p (.lst zs)) (.ref p) (.own t (.list ds)) :=
  ⟨same_new n, p, _, rfl, upd_same, n, zs, ds, rfl, rfl, z, h⟩
theorem pp_tup {K : Fg} {H Hf : Hp} {p : Addr} {zs : List V} {ds : List PyData} (s : Same Hf H) (n : H p = none) (z : zs.length ≤ sizeLine) (h : RpAll K Hf zs ds) : PPost K H Hf (upd H p (.tup zs)) (.ref p) (.dat (.tuple ds)) := by
  have nf : Hf p = none := s.free n
  refine ⟨same_new n, upd Hf p (.tup zs), same_new nf, fun b u e => ?_, fun a hz => ?_, .tup upd_same z (h.mono (same_new nf))⟩
  · by_cases y : b = p
    · subst y; rw [upd_same] at e ⊢; exact e
    · rw [upd_ne y] at e; rw [upd_ne y]; exact s b u e
  · by_cases y : a = p
    · subst y; exact .inr n
    · rw [upd_ne y] at hz; exact .inl hz
theorem ppost {K : Fg} {B : List V} {σ : Sg} {H Hf H' : Hp} {ρ : Rho} {v : V} {r : SV} (s : SRel K B σ H Hf ρ) (h : PPost K H Hf H' v r) :
    ∃ Hf', SRel K B σ H' Hf' ρ ∧ Step σ ρ H Hf σ ρ H' Hf' ∧ RpV K σ ρ H σ ρ H' Hf' v r := by
  have lift : ∀ Hf', Same H H' → Same Hf Hf' → Same Hf' H' → (∀ a, Hf' a ≠ none → Hf a ≠ none ∨ H a = none) → SRel K B σ H' Hf' ρ ∧ Step σ ρ H Hf σ ρ H' Hf' := by
    intro Hf' a b c n
    refine ⟨⟨c, s.len, fun i d e => ?_, fun i t d e => ?_, s.dis⟩, ⟨b, fun x o h _ => a x o h, fun x h => ?_, fun x h => .inl h⟩⟩
    · obtain ⟨w, h1, h2⟩ := s.dat i d e
      exact ⟨w, h1, h2.mono b⟩
    · obtain ⟨x, o, h1, h2, h3, h4, h5⟩ := s.own i t d e
      refine ⟨x, o, h1, a x o h2, ?_, h4.mono b, h5⟩
      cases q : Hf' x with
      | none => rfl
      | some u =>
        rcases n x (by rw [q]; exact fun z => nomatch z) with z | z
        · exact absurd h3 z
        · rw [h2] at z; cases z
    · rcases n x h with z | z
      · exact .inl z
      · exact .inr (.inl z)
  cases r with
  | dat d =>
    obtain ⟨a, Hf', b, c, n, rp⟩ := h
    obtain ⟨h1, h2⟩ := lift Hf' a b c n
    exact ⟨Hf', h1, h2, rp⟩
  | own t d =>
    obtain ⟨a, x, o, rfl, h2, h3, h4⟩ := h
    obtain ⟨h5, h6⟩ := lift Hf a (Same.refl _) (s.sub.trans a) (fun _ z => .inl z)
    refine ⟨Hf, h5, h6, x, o, rfl, h2, s.sub.free h3, h4, ?_, .inl h3⟩
    rintro ⟨i, u, e, q1, q2⟩
    obtain ⟨y, o', k1, k2, _⟩ := s.own i u e q1
    rw [q2] at k1
    cases k1
    rw [h3] at k2; cases k2
theorem snd_tup {φ : Fn} {es : List Expr} {cs : List E} {k : Nat} {pos : Pos} (h : SndL X es (evL φ cs)) : SndE X (.Tuple es k pos) (evE φ (.tup cs)) := by
  obtain ⟨ta, p1, h1⟩ := h
  refine ⟨_, pe_tup p1, fun B σ H Hf ρ ρ' r Q s e q => ?_⟩
  simp only [evE] at e
  cases e1 : evL φ cs ρ with
  | none => rw [e1] at e; cases e
  | some p =>
    obtain ⟨ds, ρ1⟩ := p
    rw [e1] at e
    simp only [Option.bind_some] at e
    split at e
    · rename_i hz
      cases e
      refine h1 B σ H Hf ρ _ ds _ s e1 fun vs H1 Hf1 s1 t1 rv => ⟨?_, fun p n => ?_⟩
      · rw [rv.length, sizeLine_eq]; exact hz
      · have P : PPost X.K H1 Hf1 (upd H1 p (.tup vs)) (.ref p) (.dat (.tuple ds)) := pp_tup s1.sub n (by rw [rv.length, sizeLine_eq]; exact hz) rv
        obtain ⟨Hf2, s2, t2, r2⟩ := ppost s1 P
        exact q _ _ Hf2 s2 (t1.trans t2) r2
    · cases e
theorem RpV.back {K : Fg} {σ σ' : Sg} {ρ ρ1 ρ' : Rho} {H H1 H' Hf Hf1 Hf' : Hp} {v : V} {r : SV} (t : Step σ ρ H Hf σ ρ1 H1 Hf1) (h : RpV K σ ρ1 H1 σ' ρ' H' Hf' v r) : RpV K σ ρ H σ' ρ' H' Hf' v r := by
  cases r with
  | dat d => exact h
  | own u d =>
    obtain ⟨a, o, h1, h2, h3, h4, h5, h6⟩ := h
    refine ⟨a, o, h1, h2, h3, h4, h5, ?_⟩
    rcases h6 with z | z
    · cases e : H a with
      | none => exact .inl rfl
      | some w =>
        refine .inr ?_
        by_cases q : Owns σ ρ a
        · exact q
        · rw [t.keep a w e q] at z; cases z
    · rcases t.own a z with y | y
      · exact .inr y
      · exact .inl y
theorem snd_lst {φ : Fn} {es : List Expr} {cs : List E} {pos : Pos} (h : SndL X es (evL φ cs)) : SndE X (.List es pos) (evE φ (.lst cs)) := by
  obtain ⟨ta, p1, h1⟩ := h
  refine ⟨_, pe_lst p1, fun B σ H Hf ρ ρ' r Q s e q => ?_⟩
  simp only [evE] at e
  cases e1 : evL φ cs ρ with
  | none => rw [e1] at e; cases e
  | some p =>
    obtain ⟨ds, ρ1⟩ := p
    rw [e1] at e
    simp only [Option.bind_some] at e
    split at e
    · rename_i hz
      cases e
      refine h1 B σ H Hf ρ _ ds _ s e1 fun vs H1 Hf1 s1 t1 rv => ⟨?_, fun p n => ?_⟩
      · rw [rv.length, sizeLine_eq]; exact hz
      · have P : PPost X.K H1 Hf1 (upd H1 p (.lst vs)) (.ref p) (.own none (.list ds)) := pp_lst n (by rw [rv.length, sizeLine_eq]; exact hz) rv
        obtain ⟨Hf2, s2, t2, r2⟩ := ppost s1 P
        exact q _ _ Hf2 s2 (t1.trans t2) (RpV.back t1 r2)
    · cases e
/-! ### primitives -/
inductive PEs (X : Cx) : List Expr → List TE → Prop
  | nil : PEs X [] []
  | cons {e : Expr} {t : TE} {es : List Expr} {ts : List TE} : PE X e t → PEs X es ts → PEs X (e :: es) (t :: ts)
def tL : List TE → TA
  | [] => tNil
  | t :: ts => tCons t (tL ts)
theorem PEs.pa : ∀ {es : List Expr} {ts : List TE}, PEs X es ts → es.all noStar = true → PA X es (tL ts)
  | _, _, .nil, _ => pa_nil
  | e :: es, _, .cons h t, n => by
    have n' : noStar e = true ∧ es.all noStar = true := by simpa using n
    exact pa_cons h (t.pa n'.2) (starEach_no n'.1)
def RpO (K : Fg) (H Hf : Hp) (v : V) (d : PyData) : Prop := Rp K Hf v d ∨ ∃ a o, v = .ref a ∧ H a = some o ∧ ObR K Hf o d
inductive RpOs (K : Fg) (H Hf : Hp) : List V → List PyData → Prop
  | nil : RpOs K H Hf [] []
  | cons {v : V} {vs : List V} {d : PyData} {ds : List PyData} : RpO K H Hf v d → RpOs K H Hf vs ds → RpOs K H Hf (v :: vs) (d :: ds)
def OpR1 (K : Fg) (σ : Sg) (Hf : Hp) (v : V) : Opd → Prop
  | .inl i => σ[i]? = some (some v)
  | .inr d => Rp K Hf v d
inductive OpRs (K : Fg) (σ : Sg) (Hf : Hp) : List V → List Opd → Prop
  | nil : OpRs K σ Hf [] []
  | cons {v : V} {vs : List V} {o : Opd} {os : List Opd} : OpR1 K σ Hf v o → OpRs K σ Hf vs os → OpRs K σ Hf (v :: vs) (o :: os)
theorem OpRs.rd {K : Fg} {B : List V} {σ : Sg} {H Hf : Hp} {ρ : Rho} (s : SRel K B σ H Hf ρ) : ∀ {vs : List V} {os : List Opd} {ds : List PyData}, OpRs K σ Hf vs os → rdOs ρ os = some ds → RpOs K H Hf vs ds
  | _, _, _, .nil, e => by simp [rdOs] at e; subst e; exact .nil
  | _, o :: os, ds, .cons (v := v) h t, e => by
    simp only [rdOs] at e
    cases e1 : rdO ρ o with
    | none => rw [e1] at e; cases e
    | some d =>
      rw [e1] at e
      simp only [Option.bind_some, Option.map_eq_some_iff] at e
      obtain ⟨ds2, e2, rfl⟩ := e
      refine .cons ?_ (t.rd s e2)
      cases o with
      | inr d' => simp only [rdO] at e1; cases e1; exact .inl h
      | inl i =>
        simp only [rdO] at e1
        have h : σ[i]? = some (some v) := h
        split at e1
        · rename_i d0 q
          cases e1
          obtain ⟨v', k1, k2⟩ := s.dat i d q
          rw [h] at k1; cases k1
          exact .inl k2
        · rename_i t0 d0 q
          cases e1
          obtain ⟨a, o, k1, k2, k3, k4, _⟩ := s.own i t0 d q
          rw [h] at k1; cases k1
          exact .inr ⟨a, o, rfl, k2, k4⟩
        · cases e1
def SndO (X : Cx) (es : List Expr) (ev : Rho → Option (List Opd × Rho)) : Prop :=
  ∃ ts, PEs X es ts ∧ ∀ (B : List V) (σ : Sg) (H Hf : Hp) (ρ ρ' : Rho) (os : List Opd) (Q : List V → Hp → Prop), SRel X.K B σ H Hf ρ → ev ρ = some (os, ρ') →
    (∀ vs H' Hf', SRel X.K B σ H' Hf' ρ' → Step σ ρ H Hf σ ρ' H' Hf' → OpRs X.K σ Hf' vs os → Q vs H') → tL ts σ H Q
theorem sndO_nil {φ : Fn} : SndO X [] (evO φ []) := by
  refine ⟨_, .nil, fun B σ H Hf ρ ρ' os Q s e q => ?_⟩
  simp only [evO] at e
  cases e
  exact q [] H Hf s Step.refl .nil
theorem sndO_var {φ : Fn} {i : Nat} {x : Str} {pos : Pos} {es : List Expr} {cs : List E} (hN : X.N[i]? = some x) (hv : Vis X.env.scope x) (hd : (x == ("__debug__" : Str)) = false) (hcd : (x == ("__classdict__" : Str)) = false)
    (t : SndO X es (evO φ cs)) : SndO X (.Name x pos :: es) (evO φ (.var i :: cs)) := by
  obtain ⟨ts, p2, h2⟩ := t
  refine ⟨_, .cons (pe_var hN hv hd hcd) p2, fun B σ H Hf ρ ρ' os Q s e q => ?_⟩
  simp only [evO] at e
  split at e
  · rename_i w hw
    simp only [Option.map_eq_some_iff] at e
    obtain ⟨⟨os2, ρ2⟩, e2, e3⟩ := e
    cases e3
    have hσ : ∃ v, σ[i]? = some (some v) := by
      cases w with
      | dat d => obtain ⟨v, k, _⟩ := s.dat i d hw; exact ⟨v, k⟩
      | own t d => obtain ⟨a, o, k, _⟩ := s.own i t d hw; exact ⟨_, k⟩
    obtain ⟨v, hv⟩ := hσ
    refine ⟨v, hv, h2 B σ H Hf ρ ρ2 os2 _ s e2 fun vs H2 Hf2 s2 t2 rvs => ?_⟩
    exact q _ H2 Hf2 s2 t2 (.cons hv rvs)
  · cases e
def isVarE : E → Bool
  | .var _ => true
  | _ => false
theorem OpRs.mono {K : Fg} {σ : Sg} {Hf Hf' : Hp} (e : Same Hf Hf') : ∀ {vs : List V} {os : List Opd}, OpRs K σ Hf vs os → OpRs K σ Hf' vs os
  | _, _, .nil => .nil
  | _, o :: _, .cons h t => .cons (match o, h with
    | .inl _, h => h
    | .inr _, h => Rp.mono e h) (t.mono e)
theorem evO_cons {φ : Fn} {c : E} {cs : List E} {r : Rho} (h : isVarE c = false) : evO φ (c :: cs) r = (evE φ c r).bind fun p => (evO φ cs p.2).map fun q => (.inr p.1.d :: q.1, q.2) := by
  cases c <;> first | rfl | (simp [isVarE] at h)
theorem sndO_cons {φ : Fn} {e : Expr} {es : List Expr} {c : E} {cs : List E} (hc : isVarE c = false) (h : SndE X e (evE φ c)) (t : SndO X es (evO φ cs)) : SndO X (e :: es) (evO φ (c :: cs)) := by
  obtain ⟨te, p1, h1⟩ := h.dt
  obtain ⟨ts, p2, h2⟩ := t
  refine ⟨_, .cons p1 p2, fun B σ H Hf ρ ρ' os Q s e q => ?_⟩
  rw [evO_cons hc] at e
  cases e1 : evE φ c ρ with
  | none => rw [e1] at e; cases e
  | some p =>
    rw [e1] at e
    obtain ⟨r, ρ1⟩ := p
    simp only [Option.bind_some, Option.map_eq_some_iff] at e
    obtain ⟨⟨os2, ρ2⟩, e2, e3⟩ := e
    cases e3
    refine h1 B σ H Hf ρ ρ1 r _ s e1 fun v H1 Hf1 s1 t1 rv => ?_
    refine h2 B σ H1 Hf1 ρ1 ρ2 os2 _ s1 e2 fun vs H2 Hf2 s2 t2 rvs => ?_
    exact q _ H2 Hf2 s2 (t1.trans t2) (.cons (rv.mono t2.fz) rvs)
/-- a primitive's reading -/
def PrimR (K : Fg) (p : Pr) (r : List V → Hp → VK → Prop) : Prop :=
  ∀ (H Hf : Hp) (vs : List V) (ds : List PyData) (sv : SV) (Q : VK), Same Hf H → RpOs K H Hf vs ds → prim p ds = some sv → (∀ v H', PPost K H Hf H' v sv → Q v H') → r vs H Q
def PrimOk (X : Cx) (p : Pr) (e : Expr) (es : List Expr) : Prop := ∀ ts, PEs X es ts → ∃ r, PE X e (fun σ H Q => tL ts σ H fun vs H1 => r vs H1 Q) ∧ PrimR X.K p r
theorem snd_prim {φ : Fn} {e : Expr} {es : List Expr} {cs : List E} {p : Pr} (h : SndO X es (evO φ cs)) (hp : PrimOk X p e es) : SndE X e (evE φ (.prim p cs)) := by
  obtain ⟨ts, p1, h1⟩ := h
  obtain ⟨r, pe, pr⟩ := hp ts p1
  refine ⟨_, pe, fun B σ H Hf ρ ρ' sv Q s e q => ?_⟩
  simp only [evE] at e
  cases e1 : evO φ cs ρ with
  | none => rw [e1] at e; cases e
  | some w =>
    obtain ⟨os, ρ1⟩ := w
    rw [e1] at e
    simp only [Option.bind_some] at e
    cases e2 : rdOs ρ1 os with
    | none => rw [e2] at e; cases e
    | some ds =>
      rw [e2] at e
      simp only [Option.bind_some, Option.map_eq_some_iff] at e
      obtain ⟨v0, e3, e4⟩ := e
      cases e4
      refine h1 B σ H Hf ρ _ os _ s e1 fun vs H1 Hf1 s1 t1 rv => ?_
      refine pr H1 Hf1 vs ds sv Q s1.sub (rv.rd s1 e2) e3 fun v H2 P => ?_
      obtain ⟨Hf2, s2, t2, r2⟩ := ppost s1 P
      exact q v H2 Hf2 s2 (t1.trans t2) (RpV.back t1 r2)
end
end LI

set_option Elab.async false
set_option linter.all false
set_option autoImplicit false
set_option maxRecDepth 100000
set_option maxHeartbeats 4000000
namespace LI
open PySem PySem.Spec PyProof.Rows L2
section
variable {K : Fg} {H Hf : Hp}
theorem RpOs.one {vs : List V} {d : PyData} (h : RpOs K H Hf vs [d]) : ∃ x, vs = [x] ∧ RpO K H Hf x d := by
  cases h with | cons a t => cases t; exact ⟨_, rfl, a⟩
theorem RpOs.two {vs : List V} {d e : PyData} (h : RpOs K H Hf vs [d, e]) : ∃ x y, vs = [x, y] ∧ RpO K H Hf x d ∧ RpO K H Hf y e := by
  cases h with | cons a t => cases t with | cons b t => cases t; exact ⟨_, _, rfl, a, b⟩
theorem RpO.int {v : V} {i : Int} (h : RpO K H Hf v (.int i)) : v = .int i := by
  rcases h with h | ⟨a, o, _, _, xs, ds, _, e, _⟩
  · cases h; rfl
  · cases e
theorem RpO.bool {v : V} {i : Bool} (h : RpO K H Hf v (.bool i)) : v = .bl i := by
  rcases h with h | ⟨a, o, _, _, xs, ds, _, e, _⟩
  · cases h; rfl
  · cases e
theorem RpO.list {v : V} {ds : List PyData} (s : Same Hf H) (h : RpO K H Hf v (.list ds)) : ∃ a xs, v = .ref a ∧ H a = some (.lst xs) ∧ xs.length ≤ sizeLine ∧ RpAll K Hf xs ds := by
  rcases h with h | ⟨a, o, h1, h2, xs, ds', h3, h4, h5, h6⟩
  · cases h with | lst h z r => exact ⟨_, _, rfl, s _ _ h, z, r⟩
  · cases h4; subst h3; exact ⟨a, xs, h1, h2, h5, h6⟩
theorem RpO.tuple {v : V} {ds : List PyData} (s : Same Hf H) (h : RpO K H Hf v (.tuple ds)) : ∃ a xs, v = .ref a ∧ SqT K H a xs ∧ xs.length ≤ sizeLine ∧ RpAll K Hf xs ds ∧ Rp K Hf v (.tuple ds) := by
  rcases h with h | ⟨a, o, h1, h2, xs, ds', h3, h4, h5, h6⟩
  · cases id h with | tup h' z r => exact ⟨_, _, rfl, SqT.of (s _ _ h'), z, r, h⟩
  · cases h4
theorem RpO.scr {v : V} {ds : List PyData} {e : PyData} (s : Same Hf H) (h : RpO K H Hf v (.dict [(.list ds, e)])) : ∃ a xs, v = .ref a ∧ SqL K H a xs ∧ xs.length ≤ sizeLine ∧ RpAll K Hf xs ds := by
  rcases h with h | ⟨a, o, h1, h2, xs, ds', h3, h4, h5, h6⟩
  · cases h with
    | scr h z r => exact ⟨_, _, rfl, s.seq h, z, r⟩
    | dct _ r => cases r
  · cases h4
theorem RpO.seq {v : V} {d : PyData} {ds : List PyData} (s : Same Hf H) (h : RpO K H Hf v d) (e : seqOf d = some ds) : ∃ a xs, v = .ref a ∧ (SqL K H a xs ∨ SqT K H a xs) ∧ xs.length ≤ sizeLine ∧ RpAll K Hf xs ds := by
  cases d with
  | list ds' => simp only [seqOf] at e; cases e; obtain ⟨a, xs, h1, h2, h3, h4⟩ := h.list s; exact ⟨a, xs, h1, .inl (SqL.of h2), h3, h4⟩
  | tuple ds' => simp only [seqOf] at e; cases e; obtain ⟨a, xs, h1, h2, h3, h4, _⟩ := h.tuple s; exact ⟨a, xs, h1, .inr h2, h3, h4⟩
  | _ => simp [seqOf] at e
theorem RpO.rp {v : V} {d : PyData} (s : Same Hf H) (h : RpO K H Hf v d) : Rp K H v d := by
  rcases h with h | ⟨a, o, rfl, h2, xs, ds', rfl, rfl, h5, h6⟩
  · exact h.mono s
  · exact .lst h2 h5 (h6.mono s)
end
section
variable {X : Cx}
def R2l (r : R2) : List V → Hp → VK → Prop := fun vs H Q => match vs with
  | [x, y] => r x y H Q
  | _ => False
def R1l (r : V → Hp → VK → Prop) : List V → Hp → VK → Prop := fun vs H Q => match vs with
  | [x] => r x H Q
  | _ => False
theorem prim_op {op : Operator} {p : Pr} {r : R2} {a b : Expr} {pos : Pos} (ho : OpR X (binaryOp op) r) (hr : PrimR X.K p (R2l r)) : PrimOk X p (.BinOp a op b pos) [a, b] := by
  intro ts h
  cases h with | cons ha h => cases h with | cons hb h => cases h; exact ⟨R2l r, pe_op ho ha hb, hr⟩
theorem prim_cmp {op : CmpOp} {p : Pr} {r : R2} {a b : Expr} {pos : Pos} (ho : OpR X (compareOp op) r) (hr : PrimR X.K p (R2l r)) (hm : behindInMarks op b = false) : PrimOk X p (.Compare a [op] [b] pos) [a, b] := by
  intro ts h
  cases h with | cons ha h => cases h with | cons hb h => cases h; exact ⟨R2l r, pe_cmpR ho ha hb hm, hr⟩
theorem prim_un {op : UnaryOp} {p : Pr} {r : V → Hp → VK → Prop} {a : Expr} {pos : Pos} (ho : UnR X (unaryOp op) r) (hr : PrimR X.K p (R1l r)) : PrimOk X p (.UnaryOp op a pos) [a] := by
  intro ts h
  cases h with | cons ha h => cases h; exact ⟨R1l r, pe_un ho ha, hr⟩
/-! ### two ints -/
theorem prim_int2 {p : Pr} {f : Int → Int → Option SV} {C : Int → Int → Prop} {g : Int → Int → V} (hp : ∀ ds, prim p ds = pInt2 f ds) (hf : ∀ i j sv, f i j = some sv → C i j ∧ ∃ d, sv = .dat d ∧ ∀ H, Rp X.K H (g i j) d) : PrimR X.K p (R2l (rI C g)) := by
  intro H Hf vs ds sv Q s r e q
  rw [hp] at e
  unfold pInt2 at e
  split at e
  · rename_i i j
    obtain ⟨x, y, rfl, h1, h2⟩ := r.two
    obtain rfl := h1.int
    obtain rfl := h2.int
    obtain ⟨c, d, rfl, rp⟩ := hf i j sv e
    exact ⟨i, j, rfl, rfl, c, q _ H (pp_same s (rp _))⟩
  · cases e
theorem prim_int20 {p : Pr} {f : Int → Int → Option SV} {g : Int → Int → V} (hp : ∀ ds, prim p ds = pInt2 f ds) (hf : ∀ i j sv, f i j = some sv → ∃ d, sv = .dat d ∧ ∀ H, Rp X.K H (g i j) d) : PrimR X.K p (R2l (rI0 g)) := by
  intro H Hf vs ds sv Q s r e q
  rw [hp] at e
  unfold pInt2 at e
  split at e
  · rename_i i j
    obtain ⟨x, y, rfl, h1, h2⟩ := r.two
    obtain rfl := h1.int
    obtain rfl := h2.int
    obtain ⟨d, rfl, rp⟩ := hf i j sv e
    exact ⟨i, j, rfl, rfl, q _ H (pp_same s (rp _))⟩
  · cases e
theorem p_sub {a b : Expr} {pos : Pos} : PrimOk X .sub (.BinOp a .Sub b pos) [a, b] := prim_op op_sub (prim_int20 (fun _ => rfl) fun i j sv e => by cases e; exact ⟨_, rfl, fun _ => .int _⟩)
theorem p_mod {a b : Expr} {pos : Pos} : PrimOk X .mod (.BinOp a .Mod b pos) [a, b] := prim_op op_mod (prim_int2 (fun _ => rfl) fun i j sv e => by
  split at e
  · rename_i c; cases e; exact ⟨c, _, rfl, fun _ => .int _⟩
  · cases e)
theorem p_fdiv {a b : Expr} {pos : Pos} : PrimOk X .fdiv (.BinOp a .FloorDiv b pos) [a, b] := prim_op op_fdiv (prim_int2 (fun _ => rfl) fun i j sv e => by
  split at e
  · rename_i c; cases e; exact ⟨c, _, rfl, fun _ => .int _⟩
  · cases e)
theorem p_pow {a b : Expr} {pos : Pos} : PrimOk X .pow (.BinOp a .Pow b pos) [a, b] := prim_op op_pow (prim_int2 (fun _ => rfl) fun i j sv e => by
  split at e
  · rename_i c; cases e; exact ⟨c, _, rfl, fun _ => .int _⟩
  · cases e)
theorem p_lt {a b : Expr} {pos : Pos} : PrimOk X .lt (.Compare a [.Lt] [b] pos) [a, b] := prim_cmp op_lt (prim_int20 (fun _ => rfl) fun i j sv e => by cases e; exact ⟨_, rfl, fun _ => .bl _⟩) (nomark _)
theorem p_le {a b : Expr} {pos : Pos} : PrimOk X .le (.Compare a [.LtE] [b] pos) [a, b] := prim_cmp op_le (prim_int20 (fun _ => rfl) fun i j sv e => by cases e; exact ⟨_, rfl, fun _ => .bl _⟩) (nomark _)
theorem p_gt {a b : Expr} {pos : Pos} : PrimOk X .gt (.Compare a [.Gt] [b] pos) [a, b] := prim_cmp op_gt (prim_int20 (fun _ => rfl) fun i j sv e => by cases e; exact ⟨_, rfl, fun _ => .bl _⟩) (nomark _)
theorem p_ge {a b : Expr} {pos : Pos} : PrimOk X .ge (.Compare a [.GtE] [b] pos) [a, b] := prim_cmp op_ge (prim_int20 (fun _ => rfl) fun i j sv e => by cases e; exact ⟨_, rfl, fun _ => .bl _⟩) (nomark _)
/-! ### one operand, two operands -/
theorem prim1 {p : Pr} {f : PyData → Option SV} {r : V → Hp → VK → Prop} (hp : ∀ ds, prim p ds = p1 f ds) (hf : ∀ (H Hf : Hp) (x : V) (d : PyData) (sv : SV) (Q : VK), Same Hf H → RpO X.K H Hf x d → f d = some sv → (∀ v H', PPost X.K H Hf H' v sv → Q v H') → r x H Q) : PrimR X.K p (R1l r) := by
  intro H Hf vs ds sv Q s rr e q
  rw [hp] at e
  unfold p1 at e
  split at e
  · obtain ⟨x, rfl, h1⟩ := rr.one
    exact hf H Hf x _ sv Q s h1 e q
  · cases e
theorem prim2 {p : Pr} {f : PyData → PyData → Option SV} {r : R2} (hp : ∀ ds, prim p ds = p2 f ds) (hf : ∀ (H Hf : Hp) (x y : V) (d e : PyData) (sv : SV) (Q : VK), Same Hf H → RpO X.K H Hf x d → RpO X.K H Hf y e → f d e = some sv → (∀ v H', PPost X.K H Hf H' v sv → Q v H') → r x y H Q) : PrimR X.K p (R2l r) := by
  intro H Hf vs ds sv Q s rr e q
  rw [hp] at e
  unfold p2 at e
  split at e
  · obtain ⟨x, y, rfl, h1, h2⟩ := rr.two
    exact hf H Hf x y _ _ sv Q s h1 h2 e q
  · cases e
theorem prim_i1 {p : Pr} {f : Int → Option SV} {r : V → Hp → VK → Prop} (hp : ∀ ds, prim p ds = p1 (pI1 f) ds) (hf : ∀ (H Hf : Hp) (i : Int) (sv : SV) (Q : VK), Same Hf H → f i = some sv → (∀ v H', PPost X.K H Hf H' v sv → Q v H') → r (.int i) H Q) : PrimR X.K p (R1l r) :=
  prim1 hp fun H Hf x d sv Q s rx e q => by
    unfold pI1 at e
    split at e
    · obtain rfl := rx.int
      exact hf H Hf _ sv Q s e q
    · cases e
theorem prim_l1 {p : Pr} {f : List PyData → Option SV} {r : V → Hp → VK → Prop} (hp : ∀ ds, prim p ds = p1 (pL1 f) ds) (hf : ∀ (H Hf : Hp) (a : Addr) (xs : List V) (ds : List PyData) (sv : SV) (Q : VK), Same Hf H → H a = some (.lst xs) → xs.length ≤ sizeLine → RpAll X.K Hf xs ds → f ds = some sv → (∀ v H', PPost X.K H Hf H' v sv → Q v H') → r (.ref a) H Q) : PrimR X.K p (R1l r) :=
  prim1 hp fun H Hf x d sv Q s rx e q => by
    unfold pL1 at e
    split at e
    · obtain ⟨a, xs, rfl, h1, h2, h3⟩ := rx.list s
      exact hf H Hf a xs _ sv Q s h1 h2 h3 e q
    · cases e
theorem p_neg {a : Expr} {pos : Pos} : PrimOk X .neg (.UnaryOp .USub a pos) [a] := prim_un un_neg (prim_i1 (fun _ => rfl) fun H Hf i sv Q s e q => by
  cases e
  exact ⟨i, rfl, q _ H (pp_same s (.int _))⟩)
/-! ### equality, in, is None -/
theorem p_eq {a b : Expr} {pos : Pos} (hu : X.A.units + 64 < cLine) : PrimOk X .eq (.Compare a [.Eq] [b] pos) [a, b] := prim_cmp (op_eqD hu) (prim2 (fun _ => rfl) fun H Hf x y d e sv Q s h1 h2 h q => by
  split at h
  · rename_i c
    rw [Bool.and_eq_true] at c
    cases h
    exact ⟨d, e, (h1.rp s).dp (SeqAt.canLay_of_shaped c.1), (h2.rp s).dp (SeqAt.canLay_of_shaped c.2), c.1, c.2, q _ H (pp_same s (.bl _))⟩
  · cases h) (nomark _)
theorem p_ne {a b : Expr} {pos : Pos} (hu : X.A.units + 64 < cLine) : PrimOk X .ne (.Compare a [.NotEq] [b] pos) [a, b] := prim_cmp (op_neD hu) (prim2 (fun _ => rfl) fun H Hf x y d e sv Q s h1 h2 h q => by
  split at h
  · rename_i c
    rw [Bool.and_eq_true] at c
    cases h
    exact ⟨d, e, (h1.rp s).dp (SeqAt.canLay_of_shaped c.1), (h2.rp s).dp (SeqAt.canLay_of_shaped c.2), c.1, c.2, q _ H (pp_same s (.bl _))⟩
  · cases h) (nomark _)
theorem flat_rp {K : Fg} {H : Hp} {v : V} {d : PyData} (h : Rp K H v d) (f : flatD d = true) : flatV v = true := by
  cases h <;> first | rfl | (simp [flatD] at f)
theorem eqv_rp {K : Fg} {H : Hp} {v w : V} {d e : PyData} (h : Rp K H v d) (k : Rp K H w e) (f : flatD d = true) (g : flatD e = true) : eqV v w = PyData.eqv d e := by
  cases h <;> first | (simp [flatD] at f; done) | (cases k <;> first | (simp [flatD] at g; done) | (simp [eqV, PyData.eqv]) | rfl)
end
end LI

set_option Elab.async false
set_option linter.all false
set_option autoImplicit false
set_option maxRecDepth 100000
set_option maxHeartbeats 4000000
namespace LI
open PySem PySem.Spec PyProof.Rows L2
section
variable {X : Cx}
theorem inE_rp {K : Fg} {H : Hp} {v : V} {d : PyData} (h : Rp K H v d) (f : flatD d = true) : ∀ {vs : List V} {ds : List PyData}, RpAll K H vs ds → ds.all flatD = true → (vs.any fun y => eqV y v) = inE d ds
  | _, _, .nil, _ => rfl
  | _, _, .cons r t, g => by
    rw [List.all_cons, Bool.and_eq_true] at g
    unfold inE
    rw [List.any_cons, List.any_cons, eqv_rp r h g.1 f, inE_rp h f t g.2]
    rfl
theorem all_flat {K : Fg} {H : Hp} : ∀ {vs : List V} {ds : List PyData}, RpAll K H vs ds → ds.all flatD = true → vs.all flatV = true
  | _, _, .nil, _ => rfl
  | _, _, .cons r t, g => by
    rw [List.all_cons, Bool.and_eq_true] at g
    rw [List.all_cons, flat_rp r g.1, all_flat t g.2]
    rfl
def rInA (K : Fg) (neg : Bool) : R2 := fun x y H Q => rIn K neg x y H Q ∨ (if neg then rNotInD K x y H Q else rInD K x y H Q)
theorem prim_in (neg : Bool) {p : Pr} (hp : ∀ ds, prim p ds = pIn neg ds) : PrimR X.K p (R2l (rInA X.K neg)) := by
  intro H Hf vs ds sv Q s rr e q
  rw [hp] at e
  unfold pIn at e
  have flat : ∀ (d : PyData) (xs : List PyData) (x y : V) (a : Addr) (zs : List V), y = .ref a → RpO X.K H Hf x d → (SqL X.K H a zs ∨ SqT X.K H a zs) → RpAll X.K Hf zs xs → (flatD d && xs.all flatD) = true → Q (.bl (if neg then !inE d xs else inE d xs)) H → rInA X.K neg x y H Q := by
    intro d xs x y a zs hy h1 hz rz c q'
    rw [Bool.and_eq_true] at c
    have rx := h1.rp s
    refine .inl ⟨a, zs, hy, hz, flat_rp rx c.1, all_flat rz c.2, ?_⟩
    have e := inE_rp rx c.1 (rz.mono s) c.2
    unfold inV
    rw [e]
    exact q'
  split at e
  · rename_i d xs
    obtain ⟨x, y, rfl, h1, h2⟩ := rr.two
    split at e
    · rename_i c
      cases e
      obtain ⟨a, zs, rfl, hz, _, rz⟩ := h2.list s
      rw [Bool.or_eq_true] at c
      rcases c with c | c
      · exact flat d xs x _ a zs rfl h1 (.inl (SqL.of hz)) rz c (q _ H (pp_same s (.bl _)))
      · rw [Bool.and_eq_true] at c
        have d1 := (h1.rp s).dp (SeqAt.canLay_of_shaped c.1)
        have d2 := (h2.rp s).dp (SeqAt.canLay_of_shaped c.2)
        have q' := q _ H (pp_same s (.bl _))
        refine .inr ?_
        cases neg with
        | true => exact ⟨d, xs, d1, d2, c.1, c.2, q'⟩
        | false => exact ⟨d, xs, d1, d2, c.1, c.2, q'⟩
    · cases e
  · rename_i d xs
    obtain ⟨x, y, rfl, h1, h2⟩ := rr.two
    split at e
    · rename_i c
      cases e
      obtain ⟨a, zs, rfl, hz, _, rz, _⟩ := h2.tuple s
      exact flat d xs x _ a zs rfl h1 (.inr hz) rz c (q _ H (pp_same s (.bl _)))
    · cases e
  · cases e
theorem op_inA (hu : X.A.units + 65 < cLine) : OpR X (compareOp .In) (rInA X.K false) := OpR.or op_in_seq (op_inD hu)
theorem op_notInA (hu : X.A.units + 65 < cLine) : OpR X (compareOp .NotIn) (rInA X.K true) := OpR.or op_notIn_seq (op_notInD hu)
theorem p_in {a b : Expr} {pos : Pos} (hu : X.A.units + 65 < cLine) (hm : behindInMarks .In b = false) : PrimOk X .isin (.Compare a [.In] [b] pos) [a, b] := prim_cmp (op_inA hu) (prim_in false fun _ => rfl) hm
theorem p_notin {a b : Expr} {pos : Pos} (hu : X.A.units + 65 < cLine) (hm : behindInMarks .NotIn b = false) : PrimOk X .notin (.Compare a [.NotIn] [b] pos) [a, b] := prim_cmp (op_notInA hu) (prim_in true fun _ => rfl) hm
theorem none_rp {K : Fg} {H Hf : Hp} {v : V} {d : PyData} (h : RpO K H Hf v d) : decide (v = .non) = isNoneD d := by
  rcases h with h | ⟨a, o, rfl, h2, xs, ds', rfl, rfl, h5, h6⟩
  · cases h <;> rfl
  · rfl
theorem p_isn {a : Expr} {k : Nat} {p pos : Pos} : PrimOk X .isnone (.Compare a [.Is] [.Constant .none k p] pos) [a] := by
  intro ts h
  cases h with | cons ha h => cases h; exact ⟨R1l (fun x H Q => Q (.bl (decide (x = .non))) H), pe_cmp (pc_isN ha), prim1 (fun _ => rfl) fun H Hf x d sv Q s h1 e q => by
    cases e
    show Q (.bl (decide (x = .non))) H
    rw [none_rp h1]
    exact q _ H (pp_same s (.bl _))⟩
theorem p_notn {a : Expr} {k : Nat} {p pos : Pos} : PrimOk X .notnone (.Compare a [.IsNot] [.Constant .none k p] pos) [a] := by
  intro ts h
  cases h with | cons ha h => cases h; exact ⟨R1l (fun x H Q => Q (.bl (!decide (x = .non))) H), pe_cmp (pc_notN ha), prim1 (fun _ => rfl) fun H Hf x d sv Q s h1 e q => by
    cases e
    show Q (.bl (!decide (x = .non))) H
    rw [none_rp h1]
    exact q _ H (pp_same s (.bl _))⟩
/-! ### + and * -/
theorem prim_add : PrimR X.K .add (R2l fun x y H Q => rI0 (fun i j => .int (i + j)) x y H Q ∨ (rCat x y H Q ∨ rCatA X.K x y H Q)) := by
  intro H Hf vs ds sv Q s rr e q
  simp only [prim] at e
  unfold pAdd at e
  split at e
  · obtain ⟨x, y, rfl, h1, h2⟩ := rr.two
    obtain rfl := h1.int
    obtain rfl := h2.int
    cases e
    exact .inl ⟨_, _, rfl, rfl, q _ H (pp_same s (.int _))⟩
  · obtain ⟨x, y, rfl, h1, h2⟩ := rr.two
    split at e
    · rename_i c
      cases e
      obtain ⟨l, xs, rfl, hl, _, rl⟩ := h1.list s
      obtain ⟨b, zs, rfl, hb, _, rb⟩ := h2.list s
      have hz : xs.length + zs.length ≤ sizeLine := by rw [rl.length, rb.length, sizeLine_eq]; exact c
      exact .inr (.inl ⟨l, b, xs, zs, rfl, rfl, hl, hb, hz, fun p n => q _ _ (pp_lst n (by rw [List.length_append]; exact hz) (rl.app rb))⟩)
    · cases e
  · obtain ⟨x, y, rfl, h1, h2⟩ := rr.two
    split at e
    · rename_i c
      cases e
      obtain ⟨l, xs, rfl, hl, _, rl, r1⟩ := h1.tuple s
      obtain ⟨b, zs, rfl, hb, _, rb, r2⟩ := h2.tuple s
      have hz : xs.length + zs.length ≤ sizeLine := by rw [rl.length, rb.length, sizeLine_eq]; exact c
      refine .inr (.inr ⟨l, b, xs, zs, rfl, rfl, hl, hb, hz, fun e0 => ?_, fun _ e0 => ?_, fun _ _ p n => ?_⟩)
      · subst e0
        have := rl.length
        cases rl
        exact q _ H (pp_same s r2)
      · subst e0
        cases rb
        rw [List.append_nil] at q
        exact q _ H (pp_same s r1)
      · exact q _ _ (pp_tup s n (by rw [List.length_append]; exact hz) (rl.app rb))
    · cases e
  · cases e
theorem p_add {a b : Expr} {pos : Pos} : PrimOk X .add (.BinOp a .Add b pos) [a, b] := prim_op (OpR.or op_add (OpR.or op_cat op_catA)) prim_add
theorem okMul_c {i j : Int} (h : okMul i j = true) : CMul i j := by
  unfold okMul at h
  rw [Bool.or_eq_true, Bool.and_eq_true, Bool.and_eq_true, decide_eq_true_eq, decide_eq_true_eq, decide_eq_true_eq, decide_eq_true_eq] at h
  exact h
end
end LI

set_option Elab.async false
set_option linter.all false
set_option autoImplicit false
set_option maxRecDepth 100000
set_option maxHeartbeats 4000000
namespace LI
open PySem PySem.Spec PyProof.Rows L2
def mergeT (acc : List (List Key × V)) (ks : List (List Key × Addr × V)) : List (List Key × V) := ks.foldl (fun acc q => putK acc q.1 q.2.2) acc
def rDictT (K : PySem.W.Frag) : List V → Hp → VK → Prop := fun xs H Q => ∃ (a : Addr) (ps : List Addr) (ks : List (List Key × Addr × V)), xs = [.ref a] ∧ SqL K H a (ps.map V.ref) ∧ Paired (fun p q => SqT K H p [.ref q.2.1, q.2.2] ∧ H q.2.1 = some (.tup (q.1.map kV))) ps ks ∧ ∀ p, H p = none → Q (.ref p) (upd H p (.dT (mergeT [] ks)))
theorem mergeT_len : ∀ (ks : List (List Key × Addr × V)) (acc : List (List Key × V)), (mergeT acc ks).length ≤ acc.length + ks.length
  | [], acc => Nat.le_refl _
  | q :: r, acc => by
    have h1 := mergeT_len r (putK acc q.1 q.2.2)
    have h2 := length_putK acc q.1 q.2.2
    show (mergeT (putK acc q.1 q.2.2) r).length ≤ _
    rw [List.length_cons]; omega
theorem mergeT_kt {H : Hp} : ∀ {ks : List (List Key × Addr × V)} {prs : List (List Key × Addr × Value)}, Paired (fun q r => q.1 = r.1 ∧ q.2.1 = r.2.1 ∧ RelV q.2.2 r.2.2 ∧ H r.2.1 = some (.tup (r.1.map kV))) ks prs →
    ∀ {acc : List (List Key × V)} {xs : List (List Key × Addr × Value)}, KT H acc xs → KT H (mergeT acc ks) (storedAllH xs prs) := by
  intro ks prs h
  induction h with
  | nil => intro acc xs r; exact r
  | @cons q r ks prs h t ih =>
    intro acc xs rr
    obtain ⟨h1, h2, h3, h4⟩ := h
    have e := rr.put (k := r.1) h4 h3
    rw [← h1] at e
    show KT H (mergeT (putK acc q.1 q.2.2) ks) (storedAllH (storedH xs r.1 r.2.1 r.2.2) prs)
    rw [← h1]
    exact ih e
section
variable {X : Cx}
theorem pairsT_of {pins : List (Addr × Obj)} {σ : L2.St} {H : Hp} {s : Shared} (I : Inv X pins σ H s) : ∀ {ps : List Addr} {ks : List (List Key × Addr × V)}, Paired (fun p q => SqT X.K H p [.ref q.2.1, q.2.2] ∧ H q.2.1 = some (.tup (q.1.map kV))) ps ks →
    ∃ prs : List (List Key × Addr × Value), prs.length = ps.length ∧ Paired (fun q r => q.1 = r.1 ∧ q.2.1 = r.2.1 ∧ RelV q.2.2 r.2.2 ∧ H r.2.1 = some (.tup (r.1.map kV))) ks prs ∧
      ∀ (j : Nat) (q : List Key × Addr × Value), prs[j]? = some q → ∃ p, ps[j]? = some p ∧ IsTup s.heap p #[.ref q.2.1, q.2.2] ∧ H q.2.1 = some (.tup (q.1.map kV))
  | _, _, .nil => ⟨[], rfl, .nil, fun j q e => by simp at e⟩
  | _, _, .cons (a := p) (b := kv) h t => by
    obtain ⟨prs, hl, r, hp⟩ := pairsT_of I t
    obtain ⟨its, rv, ht, _⟩ := I.tuple h.1
    obtain ⟨u, y, ei, ru, ry⟩ := vals2 rv
    subst ei
    obtain rfl : u = Value.ref kv.2.1 := ru
    refine ⟨(kv.1, kv.2.1, y) :: prs, by rw [List.length_cons, List.length_cons, hl], .cons ⟨rfl, rfl, ry, h.2⟩ r, fun j q e => ?_⟩
    cases j with
    | zero =>
      have e' : (kv.1, kv.2.1, y) = q := Option.some.inj e
      subst e'
      exact ⟨p, rfl, ht, h.2⟩
    | succ j =>
      obtain ⟨b, e1, e2, e3⟩ := hp j q (by simpa using e)
      exact ⟨b, by simpa using e1, e2, e3⟩
theorem call_dictPT (hcalm : X.calm = true) (hu : X.A.units + 64 < cLine) : CallR X (.type "dict") (rDictT X.K) := by
  intro pins s σ H xs us Q I r q
  obtain ⟨a, ps, ks, ex, hq, hp, q⟩ := q
  subst ex
  obtain ⟨u, eu, rx⟩ := vals1 r
  subst eu
  cases rx
  obtain ⟨its, rv, pl, hz⟩ := I.list hq
  have ei := refs_at rv
  subst ei
  rw [List.length_map] at hz
  obtain ⟨prs, hl, rel, hpr⟩ := pairsT_of I hp
  obtain ⟨o, n, ho, hc, hd, hdat⟩ := pl
  have kin : ∀ x ∈ prs, (tupleKind (mixKind X.prog X.w)).is s.heap x.1 x.2.1 := fun x hx => by
    obtain ⟨j, hj⟩ := List.mem_iff_getElem?.mp hx
    obtain ⟨p, _, _, e3⟩ := hpr j x hj
    exact key_of I.hok e3
  have hsz : (ps.map Value.ref).toArray.size = (prs.map fun q => (Value.ref q.2.1, q.2.2)).length := by simp [hl]
  refine PySem.call_dict_pairsH (knd := tupleKind (mixKind X.prog X.w)) (ps := prs) (PairArg.list a (ps.map Value.ref).toArray (fun j => ps.getD j 0) (prs.map fun q => (Value.ref q.2.1, q.2.2))) (I.ok.hd hcalm) ?_ ⟨⟨o, n, ho, hc, hd, hdat⟩, hsz, fun j k v e => ?_⟩ ⟨by simp, fun i key v e => ?_⟩ (fun h' hk x hx => ?_) (by rw [List.length_map, hl]; exact hz) fun h' tk hd' k => ?_
  · exact tupleKind_room_in1 (A := X.A.in1) (by show X.A.units + _ + 1 < cLine; omega)
  · rw [List.getElem?_map] at e
    cases e2 : prs[j]? with
    | none => rw [e2] at e; cases e
    | some q' =>
      rw [e2] at e
      cases e
      obtain ⟨p, e1, e2, _⟩ := hpr j q' e2
      have eg : ps.getD j 0 = p := by rw [List.getD_eq_getElem?_getD, e1]; rfl
      dsimp only
      rw [eg]
      exact ⟨by simp [e1], .inl e2⟩
  · have e : (prs.map fun q => (Value.ref q.2.1, q.2.2))[i]? = some (key, v) := e
    rw [List.getElem?_map] at e
    cases e2 : prs[i]? with
    | none => rw [e2] at e; cases e
    | some q' =>
      rw [e2] at e
      cases e
      exact ⟨q'.1, q'.2.1, rfl, rfl⟩
  · obtain ⟨o', it', n', k1, k2, k3, k4⟩ := kin x hx
    exact ⟨o', it', n', hk _ _ (Nat.ne_of_lt (Heap.lt_size k1)) (by simp) k1, k2, k3, k4⟩
  · have hm : (s.heap.objs.size == sysModules) = false := beq_eq_false_iff_ne.mpr (Nat.ne_of_gt I.big)
    have hfree : H s.heap.objs.size = none := I.hok.fresh (Nat.le_refl _)
    have hlen : (mergeT [] ks).length ≤ sizeLine := by
      refine Nat.le_trans (mergeT_len ks []) ?_
      rw [List.length_nil, Nat.zero_add, Paired.length rel, hl]
      exact hz
    obtain ⟨oo, es, ep, g1, g2, g3, g4, _, g5⟩ := hd'
    refine ⟨.ref s.heap.objs.size, upd H s.heap.objs.size (.dT (mergeT [] ks)), I.laid (t' := tk) (fun b ob e => k b ob (by simp) e) (Nat.le_refl _) ?_, rfl, q _ hfree⟩
    refine ⟨hlen, hm, storedAllH [] prs, ?_, oo, es, ep, g1, g2, g3, g4, g5⟩
    refine (mergeT_kt rel (acc := []) (xs := []) .nil).keeps fun b ys e => ?_
    rw [upd_ne (ne_of_none e hfree)]; exact e
end
end LI

set_option Elab.async false
set_option linter.all false
set_option autoImplicit false
set_option maxRecDepth 100000
set_option maxHeartbeats 4000000
namespace LI
open PySem PySem.Spec PyProof.Rows L2
/-! ### a tuple times 0, times 1 -/
theorem tmul0 (l : Addr) (items : Array Value) (n : Nat) (dd : Option Addr) (sl : Array (Option Value)) (u : Tok) (c1 : items.isEmpty = false) :
    Meets (Builtin.«tuple.__mul__» ⟨[.ref l, .int 0 u], []⟩) (fun _ R s => s.heap.get? l = some { cls := .type "tuple", dict := dd, data := .seq items n, slots := sl } ∧
      R (.ok (.ret (Value.ref s.heap.objs.size))) { s with heap := s.heap.push { cls := Value.type "tuple", data := Data.seq #[] }, toks := s.toks }) :=
  .of_wp fun prog w A R s h => by
    obtain ⟨hp, g, d, tk, os⟩ := s
    obtain ⟨hl, h⟩ := h
    have f1 := AutoSeq1.idx_int
    have c1' : (items.isEmpty || (0 : Int) == 1) = false := by rw [c1]; rfl
    wp_walk using wpAny_loadPart' hl
    repeat (first
      | (refine wpAny_ite_false (by first | decide | (rw [c1']; decide) | (rw [c1]; decide)) ?_; wp_walk using wpAny_loadPart' hl)
      | (refine wpAny_ite_true (by first | decide | (rw [c1]; decide)) ?_; wp_walk using wpAny_loadPart' hl))
    exact ⟨_, rfl, h⟩
theorem tmul1 (l : Addr) (items : Array Value) (n : Nat) (dd : Option Addr) (sl : Array (Option Value)) (u : Tok) (c1 : items.isEmpty = false) :
    Meets (Builtin.«tuple.__mul__» ⟨[.ref l, .int 1 u], []⟩) (fun _ R s => s.heap.get? l = some { cls := .type "tuple", dict := dd, data := .seq items n, slots := sl } ∧ R (.ok (.ret (.ref l))) s) :=
  .of_wp fun prog w A R s h => by
    obtain ⟨hp, g, d, tk, os⟩ := s
    obtain ⟨hl, h⟩ := h
    have f1 := AutoSeq1.idx_int
    have c1' : (items.isEmpty || (1 : Int) == 1) = true := by rw [c1]; rfl
    wp_walk using wpAny_loadPart' hl
    repeat (first
      | (refine wpAny_ite_true (by first | decide | (rw [c1']; decide) | (rw [c1]; decide)) ?_; wp_walk using wpAny_loadPart' hl)
      | (refine wpAny_ite_false (by first | decide | (rw [c1]; decide)) ?_; wp_walk using wpAny_loadPart' hl))
    exact ⟨_, rfl, h⟩
section
variable {X : Cx}
def rRep01 (K : Fg) : R2 := fun x y H Q => ∃ l xs, x = .ref l ∧ SqT K H l xs ∧ xs ≠ [] ∧ ((y = .int 0 ∧ ∀ p, H p = none → Q (.ref p) (upd H p (.tup []))) ∨ (y = .int 1 ∧ Q (.ref l) H))
theorem op_rep01 : OpR X (binaryOp .Mult) (rRep01 X.K) := by
  intro pins s σ H x y v u Q I rx ry h
  obtain ⟨l, xs, rfl, hT, hne, h⟩ := h
  cases rx
  obtain ⟨its, r, ⟨⟨cls, dd, data, sl⟩, ho, hc, n, hd⟩, hs⟩ := I.tuple hT
  dsimp only at hc hd
  subst hc hd
  have hi : its.toArray.isEmpty = false := by
    cases its with
    | nil => exact absurd (List.eq_nil_of_length_eq_zero r.length) hne
    | cons a b => rfl
  rcases h with ⟨rfl, q⟩ | ⟨rfl, q⟩
  · obtain ⟨t, rfl⟩ := ry
    refine wpAny_binaryOp_repeat_ref (T := "tuple") (U := "int") (by decide) ⟨_, ho, rfl⟩ (fun s' => typeIs_int s' 0 t) noFill_tuple_mul F.fills_int_mul F.slot_int_rmul repeat_tuple F.slot_int_index.lookup
      (call_meets F.slot_int_rmul (typeIs_int s 0 t) F.entry_int_rmul (F.args_int_rmul_2 _ _) (int_rmul_tuple 0 t l its.toArray n dd sl)
        ⟨ho, rfl, ⟨_, ho, rfl⟩, call_meets F.slot_tuple_mul ⟨_, ho, rfl⟩ F.entry_tuple_mul (F.args_tuple_mul_2 _ _) (tmul0 l its.toArray n dd sl t hi) ⟨ho, ?_⟩⟩)
    refine ⟨.ref s.heap.objs.size, _, I.laid (t' := s.toks) (o := .tup []) (fun b ob q => Heap.get?_push_of_some _ q) (Nat.le_refl _) ?_, rfl, q _ (I.hok.fresh (Nat.le_refl _))⟩
    exact ⟨Nat.zero_le _, [], .nil, IsTup.new _ _⟩
  · obtain ⟨t, rfl⟩ := ry
    exact wpAny_binaryOp_repeat_ref (T := "tuple") (U := "int") (by decide) ⟨_, ho, rfl⟩ (fun s' => typeIs_int s' 1 t) noFill_tuple_mul F.fills_int_mul F.slot_int_rmul repeat_tuple F.slot_int_index.lookup
      (call_meets F.slot_int_rmul (typeIs_int s 1 t) F.entry_int_rmul (F.args_int_rmul_2 _ _) (int_rmul_tuple 1 t l its.toArray n dd sl)
        ⟨ho, rfl, ⟨_, ho, rfl⟩, call_meets F.slot_tuple_mul ⟨_, ho, rfl⟩ F.entry_tuple_mul (F.args_tuple_mul_2 _ _) (tmul1 l its.toArray n dd sl t hi) ⟨ho, ⟨.ref l, H, I, rfl, q⟩⟩⟩)
theorem RpAll.ne {K : Fg} {H : Hp} {vs : List V} {ds : List PyData} (h : RpAll K H vs ds) (n : ds ≠ []) : vs ≠ [] := by
  cases h with
  | nil => exact absurd rfl n
  | cons _ _ => exact fun z => nomatch z
theorem prim_mul : PrimR X.K .mul (R2l fun x y H Q => rI CMul (fun i j => .int (i * j)) x y H Q ∨ (rRep x y H Q ∨ (rRepT X.K x y H Q ∨ rRep01 X.K x y H Q))) := by
  intro H Hf vs ds sv Q s rr e q
  simp only [prim] at e
  unfold pMul at e
  split at e
  · obtain ⟨x, y, rfl, h1, h2⟩ := rr.two
    obtain rfl := h1.int
    obtain rfl := h2.int
    split at e
    · rename_i c
      cases e
      exact .inl ⟨_, _, rfl, rfl, okMul_c c, q _ H (pp_same s (.int _))⟩
    · cases e
  · rename_i a k
    obtain ⟨x, y, rfl, h1, h2⟩ := rr.two
    obtain rfl := h2.int
    split at e
    · rename_i c
      cases e
      obtain ⟨l, xs, rfl, hl, _, rl⟩ := h1.list s
      have hx : xs.length ≤ 1000 := by rw [rl.length]; exact c.2.2
      have hm : xs.length * k.toNat ≤ 1000 * 1000 := Nat.mul_le_mul hx (by omega)
      have hz : xs.length * k.toNat ≤ sizeLine := by rw [sizeLine_eq]; omega
      refine .inr (.inl ⟨l, k, xs, rfl, rfl, hl, by omega, by omega, hz, fun p n => q _ _ (pp_lst n ?_ (rl.rp _))⟩)
      rw [PyProof.Rows.lm_len_rep_flat, Nat.mul_comm]; exact hz
    · cases e
  · rename_i a k
    obtain ⟨x, y, rfl, h1, h2⟩ := rr.two
    obtain rfl := h2.int
    split at e
    · rename_i c
      cases e
      obtain ⟨l, xs, rfl, hl, _, rl, r0⟩ := h1.tuple s
      have hx : xs.length ≤ 1000 := by rw [rl.length]; exact c.2.2.1
      have hn : xs ≠ [] := rl.ne c.2.2.2
      by_cases k2 : 2 ≤ k
      · have hm : xs.length * k.toNat ≤ 1000 * 1000 := Nat.mul_le_mul hx (by omega)
        have hz : xs.length * k.toNat ≤ sizeLine := by rw [sizeLine_eq]; omega
        refine .inr (.inr (.inl ⟨l, k, xs, rfl, rfl, hl, hn, k2, c.2.1, hx, fun p n => q _ _ (pp_tup s n ?_ (rl.rp _))⟩))
        rw [PyProof.Rows.lm_len_rep_flat, Nat.mul_comm]; exact hz
      · have hk : k = 0 ∨ k = 1 := by omega
        rcases hk with rfl | rfl
        · exact .inr (.inr (.inr ⟨l, xs, rfl, hl, hn, .inl ⟨rfl, fun p n => q _ _ (pp_tup s n (Nat.zero_le _) .nil)⟩⟩))
        · refine .inr (.inr (.inr ⟨l, xs, rfl, hl, hn, .inr ⟨rfl, q _ H (pp_same s ?_)⟩⟩))
          have e : (List.replicate (Int.toNat 1) a).flatten = a := by simp
          rw [e]; exact r0
    · cases e
  · cases e
theorem p_mul {a b : Expr} {pos : Pos} : PrimOk X .mul (.BinOp a .Mult b pos) [a, b] := prim_op (OpR.or op_mul (OpR.or op_rep (OpR.or op_repT op_rep01))) prim_mul
/-! ### items -/
def noSlice : Expr → Bool
  | .Slice .. => false
  | _ => true
theorem plainIx_no {b : Expr} (h : noSlice b = true) : PlainIx b := by
  intro o i
  cases b <;> first | rfl | (simp [noSlice] at h)
theorem ixD_eq (n : Nat) (i : Int) : ixD n i = ixN n i := rfl
theorem at_rp {K : Fg} {H : Hp} {vs : List V} {ds : List PyData} {i : Int} {d : PyData} (r : RpAll K H vs ds) (h : atD ds i = some d) : ∃ v, atI vs i = some v ∧ Rp K H v d := by
  unfold atD at h
  rw [Option.bind_eq_some_iff] at h
  obtain ⟨j, h1, h2⟩ := h
  obtain ⟨v, h3, h4⟩ := r.get h2
  refine ⟨v, ?_, h4⟩
  unfold atI
  rw [r.length, ← ixD_eq, h1, Option.bind_some]
  exact h3
/-! ### dicts with tuples as keys -/
def rIxD : R2 := fun x y H Q => ∃ a v, x = .ref a ∧ DGet H a y (some v) ∧ Q v H
theorem ix_dict (hu : X.A.units + 65 < cLine) : IxR X rIxD := by
  intro value slice pins s σ H x y v u Q I rx ry h hs
  obtain ⟨a, w, rfl, g, q⟩ := h
  cases rx
  exact tail_any (dict_typeIs I g) PySem.F.slot_dict_getitem.lookup (d_getItem (by omega) I g ry fun w' s' I' rw' => ⟨w, H, I', rw', q⟩) hs
theorem keysD_map : ∀ k : List Ky, keysD (k.map keyD) = some k
  | [] => rfl
  | .inl i :: r => by show (keysD (r.map keyD)).map _ = _; rw [keysD_map r]; rfl
  | .inr x :: r => by show (keysD (r.map keyD)).map _ = _; rw [keysD_map r]; rfl
theorem keys_rp {K : Fg} {H : Hp} : ∀ {xs : List V} {ks : List PyData} {k : List Ky}, RpAll K H xs ks → keysD ks = some k → xs = k.map kV
  | _, _, _, .nil, e => by simp [keysD] at e; subst e; rfl
  | _, _, k, .cons (d := d) (ds := ds) r t, e => by
    cases d with
    | int i =>
      simp only [keysD, Option.map_eq_some_iff] at e
      obtain ⟨k', h, rfl⟩ := e
      cases r
      rw [keys_rp t h]; rfl
    | str x =>
      simp only [keysD, Option.map_eq_some_iff] at e
      obtain ⟨k', h, rfl⟩ := e
      cases r
      rw [keys_rp t h]; rfl
    | _ => simp [keysD] at e
theorem dget_rp {K : Fg} {H : Hp} {k : List Ky} {d : PyData} : ∀ {kvs : List (List Key × V)} {ds : List (PyData × PyData)}, RpKv K H kvs ds → dgetD ds k = some d → ∃ v, valV kvs k = some v ∧ Rp K H v d
  | _, _, .nil, e => by simp [dgetD] at e
  | _, _, .cons (k := k0) (v := v) (d := d0) (kvs := kvs) (ds := ds) r t, e => by
    have ek : keyOfD (.tuple (k0.map keyD)) = some k0 := keysD_map k0
    by_cases z : k0 = k
    · subst z
      have : dgetD ((.tuple (k0.map keyD), d0) :: ds) k0 = some d0 := by simp [dgetD, List.find?_cons, ek]
      rw [this] at e
      cases e
      exact ⟨v, valV_pos rfl, r⟩
    · have : dgetD ((.tuple (k0.map keyD), d0) :: ds) k = dgetD ds k := by simp [dgetD, List.find?_cons, ek, z]
      rw [this] at e
      obtain ⟨v', h1, h2⟩ := dget_rp t e
      exact ⟨v', by rw [valV_neg z]; exact h1, h2⟩
theorem RpO.dict {K : Fg} {H Hf : Hp} {v : V} {ds : List (PyData × PyData)} {k : List Ky} {d : PyData} (h : RpO K H Hf v (.dict ds)) (e : dgetD ds k = some d) : ∃ a kvs, v = .ref a ∧ Hf a = some (.dT kvs) ∧ RpKv K Hf kvs ds := by
  rcases h with h | ⟨a, o, h1, h2, xs, ds', h3, h4, h5, h6⟩
  · cases h with
    | scr _ _ _ => simp [dgetD, keyOfD] at e
    | dct h r => exact ⟨_, _, rfl, h, r⟩
  · cases h4
theorem RpO.tupF {K : Fg} {H Hf : Hp} {v : V} {ds : List PyData} (h : RpO K H Hf v (.tuple ds)) : ∃ a xs, v = .ref a ∧ Hf a = some (.tup xs) ∧ RpAll K Hf xs ds := by
  rcases h with h | ⟨a, o, h1, h2, xs, ds', h3, h4, h5, h6⟩
  · cases h with | tup h' z r => exact ⟨_, _, rfl, h', r⟩
  · cases h4
/-! ### dict(pairs) -/
inductive KvR (K : Fg) (H : Hp) : List (List Key × V) → List (List Ky × PyData) → Prop
  | nil : KvR K H [] []
  | cons {k : List Key} {v : V} {d : PyData} {kvs : List (List Key × V)} {ds : List (List Ky × PyData)} : Rp K H v d → KvR K H kvs ds → KvR K H ((k, v) :: kvs) ((k, d) :: ds)
theorem KvR.kv {K : Fg} {H : Hp} : ∀ {kvs : List (List Key × V)} {ds : List (List Ky × PyData)}, KvR K H kvs ds → RpKv K H kvs (toDD ds)
  | _, _, .nil => .nil
  | _, _, .cons r t => .cons r t.kv
theorem KvR.any {K : Fg} {H : Hp} {k : List Ky} : ∀ {kvs : List (List Key × V)} {ds : List (List Ky × PyData)}, KvR K H kvs ds → (kvs.any fun kv => decide (kv.1 = k)) = (ds.any fun kv => decide (kv.1 = k))
  | _, _, .nil => rfl
  | _, _, .cons r t => by rw [List.any_cons, List.any_cons, t.any]
theorem KvR.repl {K : Fg} {H : Hp} {k : List Ky} {v : V} {d : PyData} (hv : Rp K H v d) : ∀ {kvs : List (List Key × V)} {ds : List (List Ky × PyData)}, KvR K H kvs ds → KvR K H (kvs.map fun kv => if kv.1 = k then (kv.1, v) else kv) (ds.map fun kv => if kv.1 = k then (kv.1, d) else kv)
  | _, _, .nil => .nil
  | _, _, .cons (k := k0) r t => by
    rw [List.map_cons, List.map_cons]
    by_cases z : k0 = k
    · rw [if_pos z, if_pos z]; exact .cons hv (t.repl hv)
    · rw [if_neg z, if_neg z]; exact .cons r (t.repl hv)
theorem KvR.snoc {K : Fg} {H : Hp} {k : List Ky} {v : V} {d : PyData} (hv : Rp K H v d) : ∀ {kvs : List (List Key × V)} {ds : List (List Ky × PyData)}, KvR K H kvs ds → KvR K H (kvs ++ [(k, v)]) (ds ++ [(k, d)])
  | _, _, .nil => .cons hv .nil
  | _, _, .cons r t => .cons r (t.snoc hv)
theorem KvR.put {K : Fg} {H : Hp} {k : List Ky} {v : V} {d : PyData} {kvs : List (List Key × V)} {ds : List (List Ky × PyData)} (h : KvR K H kvs ds) (hv : Rp K H v d) : KvR K H (putK kvs k v) (putG ds k d) := by
  unfold putK putG
  rw [h.any]
  split
  · exact h.repl hv
  · exact h.snoc hv
theorem pairs_rp {K : Fg} {H : Hp} : ∀ {xs : List V} {ps : List PyData} {kvs : List (List Ky × PyData)}, RpAll K H xs ps → pairsD ps = some kvs →
    ∃ (as : List Addr) (ks : List (List Key × Addr × V)), xs = as.map V.ref ∧ Paired (fun p q => SqT K H p [.ref q.2.1, q.2.2] ∧ H q.2.1 = some (.tup (q.1.map kV))) as ks ∧ ∀ {acc : List (List Key × V)} {ac : List (List Ky × PyData)}, KvR K H acc ac → KvR K H (mergeT acc ks) (mergeG ac kvs)
  | _, _, kvs, .nil, e => by
    simp [pairsD] at e
    subst e
    exact ⟨[], [], rfl, .nil, fun h => h⟩
  | _, _, kvs, .cons (v := v) (d := d) (ds := ds) r t, e => by
    unfold pairsD at e
    split at e
    · rename_i e0; cases e0
    · rename_i ks vd r' e0
      cases e0
      obtain ⟨k, e1, e⟩ := Option.bind_eq_some_iff.mp e
      rw [Option.map_eq_some_iff] at e
      obtain ⟨kvs', e2, rfl⟩ := e
      obtain ⟨as, qs, rfl, hp, hm⟩ := pairs_rp t e2
      cases r with
      | tup hT hz ra =>
        cases ra with
        | cons r1 ra =>
          cases ra with
          | cons r2 ra =>
            cases ra
            cases r1 with
            | tup hb hzb rb =>
              obtain rfl := keys_rp rb e1
              rename_i a _ b
              refine ⟨a :: as, (k, b, _) :: qs, rfl, .cons ⟨SqT.of hT, hb⟩ hp, fun {acc ac} h => ?_⟩
              exact hm (h.put r2)
    · cases e
theorem r_dict : PrimR X.K .dict (rDictT X.K) := by
  intro H Hf vs ds sv Q s rr e q
  simp only [prim] at e
  unfold p1 at e
  split at e
  · obtain ⟨x, rfl, h1⟩ := rr.one
    unfold pDict at e
    split at e
    · rw [Option.map_eq_some_iff] at e
      obtain ⟨kvs, e1, rfl⟩ := e
      obtain ⟨l, xs, rfl, hl, hz, rl⟩ := h1.list s
      obtain ⟨as, ks, rfl, hp, hm⟩ := pairs_rp rl e1
      refine ⟨l, as, ks, rfl, SqL.of hl, Paired.mapP hp fun _ _ z => ⟨same_sqT s z.1, s _ _ z.2⟩, fun p n => q _ _ ?_⟩
      have nf : Hf p = none := s.free n
      refine ⟨same_new n, upd Hf p (.dT (mergeT [] ks)), same_new nf, fun b u e => ?_, fun a hz => ?_, .dct upd_same (RpKv.mono (same_new nf) (hm .nil).kv)⟩
      · by_cases y : b = p
        · subst y; rw [upd_same] at e ⊢; exact e
        · rw [upd_ne y] at e; rw [upd_ne y]; exact s b u e
      · by_cases y : a = p
        · subst y; exact .inr n
        · rw [upd_ne y] at hz; exact .inl hz
    · cases e
  · cases e
theorem prim_idx : PrimR X.K .idx (R2l fun x y H Q => rIxL X.K x y H Q ∨ (rIxT X.K x y H Q ∨ rIxD x y H Q)) := by
  intro H Hf vs ds sv Q s rr e q
  simp only [prim] at e
  unfold pIdx at e
  split at e
  · obtain ⟨x, y, rfl, h1, h2⟩ := rr.two
    obtain rfl := h2.int
    rw [Option.map_eq_some_iff] at e
    obtain ⟨d, e1, rfl⟩ := e
    obtain ⟨l, xs, rfl, hl, _, rl⟩ := h1.list s
    obtain ⟨v, k1, k2⟩ := at_rp rl e1
    exact .inl ⟨l, xs, _, v, rfl, rfl, SqL.of hl, k1, q _ H (pp_same s k2)⟩
  · obtain ⟨x, y, rfl, h1, h2⟩ := rr.two
    obtain rfl := h2.int
    rw [Option.map_eq_some_iff] at e
    obtain ⟨d, e1, rfl⟩ := e
    obtain ⟨l, xs, rfl, hl, _, rl, _⟩ := h1.tuple s
    obtain ⟨v, k1, k2⟩ := at_rp rl e1
    exact .inr (.inl ⟨l, xs, _, v, rfl, rfl, hl, k1, q _ H (pp_same s k2)⟩)
  · obtain ⟨x, y, rfl, h1, h2⟩ := rr.two
    rw [Option.bind_eq_some_iff] at e
    obtain ⟨k, e1, e⟩ := e
    rw [Option.map_eq_some_iff] at e
    obtain ⟨d, e2, rfl⟩ := e
    obtain ⟨a, kvs, rfl, ha, rk⟩ := RpO.dict h1 e2
    obtain ⟨b, xs, rfl, hb, rb⟩ := RpO.tupF h2
    obtain rfl := keys_rp rb e1
    obtain ⟨v, k1, k2⟩ := dget_rp rk e2
    refine .inr (.inr ⟨a, v, rfl, ?_, q _ H (pp_same s k2)⟩)
    rw [← k1]
    exact DGet.t (s _ _ ha) (s _ _ hb)
  · cases e
theorem p_idx {a b : Expr} {pos : Pos} (hu : X.A.units + 65 < cLine) (h : noSlice b = true) : PrimOk X .idx (.Subscript a b pos) [a, b] := by
  intro ts hh
  cases hh with | cons ha hh => cases hh with | cons hb hh => cases hh; exact ⟨_, pe_ix (IxR.or ix_list (IxR.or ix_tup (ix_dict hu))) ha hb (plainIx_no h), prim_idx⟩
/-! ### slices -/
theorem sIx_eq (n d : Nat) (o : Option Int) : sIxD n d o = HT.sIx n d o := by
  cases o with
  | none => rfl
  | some v =>
    unfold sIxD HT.sIx
    first | rfl | (simp only; split <;> omega)
theorem cut_rp {K : Fg} {H : Hp} {vs : List V} {ds : List PyData} (r : RpAll K H vs ds) (lo hi : Option Int) : RpAll K H (cutV vs lo hi) (cutD ds lo hi) := by
  unfold cutV cutD
  rw [r.length, sIx_eq, sIx_eq]
  exact (r.dr _).tk _
end
end LI

set_option Elab.async false
set_option linter.all false
set_option autoImplicit false
set_option maxRecDepth 100000
set_option maxHeartbeats 4000000
namespace LI
open PySem PySem.Spec PyProof.Rows L2
section
variable {X : Cx}
def rSlX (K : Fg) : V → Option Int → Option Int → Hp → VK → Prop := fun x lo hi H Q => rSlL K x lo hi H Q ∨ rSlA K x lo hi H Q
theorem sl_any : SlR X (rSlX X.K) := SlR.or sl_list sl_tupA
/-- by the parts -/
theorem slX {H Hf : Hp} {x : V} {d : PyData} {lo hi : Bool} {r : List PyData} {a b : Option Int} {sv : SV} {Q : VK} (s : Same Hf H) (h : RpO X.K H Hf x d) (e : pSl lo hi (d :: r) = some sv) (hp : slParts lo hi r = some (a, b)) (q : ∀ v H', PPost X.K H Hf H' v sv → Q v H') : rSlX X.K x a b H Q := by
  unfold pSl at e
  split at e
  · rename_i ds r' e0
    cases e0
    rw [hp] at e
    cases e
    obtain ⟨l, xs, rfl, hl, hz, rl⟩ := h.list s
    exact .inl ⟨l, xs, rfl, SqL.of hl, fun p n => q _ _ (pp_lst n (Nat.le_trans (cutV_length _ _ _) hz) (cut_rp rl _ _))⟩
  · rename_i ds r' e0
    cases e0
    rw [hp] at e
    cases e
    obtain ⟨l, xs, rfl, hl, hz, rl, r0⟩ := h.tuple s
    refine .inr ⟨l, xs, rfl, hl, fun c => ?_, fun _ p n => q _ _ (pp_tup s n (Nat.le_trans (cutV_length _ _ _) hz) (cut_rp rl _ _))⟩
    have e : cutD ds a b = ds := by
      unfold cutD
      rw [sIx_eq, sIx_eq, ← rl.length, c.1, c.2, List.drop_zero, Nat.sub_zero, rl.length, List.take_length]
    refine q _ H (pp_same s ?_)
    show Rp X.K Hf (.ref l) (.tuple (cutD ds a b))
    rw [e]; exact r0
  · rename_i ds u r' e0
    cases e0
    rw [hp] at e
    cases e
    obtain ⟨l, xs, rfl, hl, hz, rl⟩ := h.scr s
    exact .inl ⟨l, xs, rfl, hl, fun p n => q _ _ (pp_lst n (Nat.le_trans (cutV_length _ _ _) hz) (cut_rp rl _ _))⟩
  · cases e
theorem slP1 {lo hi : Bool} {d : PyData} {r : List PyData} {sv : SV} (e : pSl lo hi (d :: r) = some sv) : ∃ p, slParts lo hi r = some p := by
  unfold pSl at e
  split at e <;> first | (rename_i e0; cases e0; rw [Option.bind_eq_some_iff] at e; obtain ⟨p, h, _⟩ := e; exact ⟨p, h⟩) | cases e
theorem p_sl00 {a : Expr} {p2 pos : Pos} : PrimOk X (.sl false false) (.Subscript a (.Slice none none none p2) pos) [a] := by
  intro ts hh
  cases hh with
  | cons ha hh =>
    cases hh
    refine ⟨R1l fun x H Q => rSlX X.K x none none H Q, pe_slice sl_any ha po_none po_none, ?_⟩
    intro H Hf vs ds sv Q s rr e q
    simp only [prim] at e
    cases rr with
    | nil => simp [pSl] at e
    | cons h t =>
      obtain ⟨p, hp⟩ := slP1 e
      unfold slParts at hp
      split at hp <;> first | (cases hp; done) | skip
      · cases t; exact slX s h e rfl q
      all_goals contradiction
theorem p_sl10 {a b : Expr} {p2 pos : Pos} : PrimOk X (.sl true false) (.Subscript a (.Slice (some b) none none p2) pos) [a, b] := by
  intro ts hh
  cases hh with
  | cons ha hh =>
    cases hh with
    | cons hb hh =>
      cases hh
      refine ⟨R2l fun x y H Q => ∃ i, y = .int i ∧ rSlX X.K x (some i) none H Q, pe_slice sl_any ha (po_some hb) po_none, ?_⟩
      intro H Hf vs ds sv Q s rr e q
      simp only [prim] at e
      cases rr with
      | nil => simp [pSl] at e
      | cons h t =>
        obtain ⟨p, hp⟩ := slP1 e
        unfold slParts at hp
        split at hp <;> first | (cases hp; done) | skip
        all_goals first | contradiction | skip
        · obtain ⟨y, rfl, h2⟩ := t.one
          obtain rfl := h2.int
          exact ⟨_, rfl, slX s h e rfl q⟩
theorem p_sl01 {a b : Expr} {p2 pos : Pos} : PrimOk X (.sl false true) (.Subscript a (.Slice none (some b) none p2) pos) [a, b] := by
  intro ts hh
  cases hh with
  | cons ha hh =>
    cases hh with
    | cons hb hh =>
      cases hh
      refine ⟨R2l fun x y H Q => ∃ i, y = .int i ∧ rSlX X.K x none (some i) H Q, pe_slice sl_any ha po_none (po_some hb), ?_⟩
      intro H Hf vs ds sv Q s rr e q
      simp only [prim] at e
      cases rr with
      | nil => simp [pSl] at e
      | cons h t =>
        obtain ⟨p, hp⟩ := slP1 e
        unfold slParts at hp
        split at hp <;> first | (cases hp; done) | skip
        all_goals first | contradiction | skip
        · obtain ⟨y, rfl, h2⟩ := t.one
          obtain rfl := h2.int
          exact ⟨_, rfl, slX s h e rfl q⟩
/-! ### built-ins by name -/
theorem prim_callB {p : Pr} {x : Str} {id : String} {r : List V → Hp → VK → Prop} {e : Expr} {es : List Expr} {pn pos : Pos} (hc : CallR X (.builtin id) r) (hg : Gl X x) (hm : X.mg x = none) (hv : bootBuiltins x = some (.builtin id)) (hn : x ≠ "__name__") (hd : (x == ("__debug__" : Str)) = false)
    (hs : (e :: es).all noStar = true) (hr : PrimR X.K p r) : PrimOk X p (.Call (.Name x pn) (e :: es) [] pos) (e :: es) := by
  intro ts h
  have hs' : noStar e = true ∧ es.all noStar = true := by simpa using hs
  exact ⟨r, pe_callB hc hg hm hv (h.pa hs) hn hd (starEach_no hs'.1) (any_no hs'.2), hr⟩
theorem prim_callT {p : Pr} {x : Str} {id : String} {r : List V → Hp → VK → Prop} {e : Expr} {es : List Expr} {pn pos : Pos} (hc : CallR X (.type id) r) (hg : Gl X x) (hm : X.mg x = none) (hv : bootBuiltins x = some (.type id)) (hn : x ≠ "__name__") (hd : (x == ("__debug__" : Str)) = false)
    (hs : (e :: es).all noStar = true) (hr : PrimR X.K p r) : PrimOk X p (.Call (.Name x pn) (e :: es) [] pos) (e :: es) := by
  intro ts h
  have hs' : noStar e = true ∧ es.all noStar = true := by simpa using hs
  exact ⟨r, pe_callTy hc hg hm hv (h.pa hs) hn hd (starEach_no hs'.1) (any_no hs'.2), hr⟩
theorem prim1l {p : Pr} {f : PyData → Option SV} {r : List V → Hp → VK → Prop} (hp : ∀ ds, prim p ds = p1 f ds) (hf : ∀ (H Hf : Hp) (x : V) (d : PyData) (sv : SV) (Q : VK), Same Hf H → RpO X.K H Hf x d → f d = some sv → (∀ v H', PPost X.K H Hf H' v sv → Q v H') → r [x] H Q) : PrimR X.K p r := by
  intro H Hf vs ds sv Q s rr e q
  rw [hp] at e
  unfold p1 at e
  split at e
  · obtain ⟨x, rfl, h1⟩ := rr.one
    exact hf H Hf x _ sv Q s h1 e q
  · cases e
theorem prim_i1l {p : Pr} {f : Int → Option SV} {r : List V → Hp → VK → Prop} (hp : ∀ ds, prim p ds = p1 (pI1 f) ds) (hf : ∀ (H Hf : Hp) (i : Int) (sv : SV) (Q : VK), Same Hf H → f i = some sv → (∀ v H', PPost X.K H Hf H' v sv → Q v H') → r [.int i] H Q) : PrimR X.K p r :=
  prim1l hp fun H Hf x d sv Q s rx e q => by
    unfold pI1 at e
    split at e
    · obtain rfl := rx.int
      exact hf H Hf _ sv Q s e q
    · cases e
theorem prim_l1l {p : Pr} {f : List PyData → Option SV} {r : List V → Hp → VK → Prop} (hp : ∀ ds, prim p ds = p1 (pL1 f) ds) (hf : ∀ (H Hf : Hp) (a : Addr) (xs : List V) (ds : List PyData) (sv : SV) (Q : VK), Same Hf H → H a = some (.lst xs) → xs.length ≤ sizeLine → RpAll X.K Hf xs ds → f ds = some sv → (∀ v H', PPost X.K H Hf H' v sv → Q v H') → r [.ref a] H Q) : PrimR X.K p r :=
  prim1l hp fun H Hf x d sv Q s rx e q => by
    unfold pL1 at e
    split at e
    · obtain ⟨a, xs, rfl, h1, h2, h3⟩ := rx.list s
      exact hf H Hf a xs _ sv Q s h1 h2 h3 e q
    · cases e
theorem prim_sq {p : Pr} {f : List PyData → Option SV} {r : List V → Hp → VK → Prop} (hp : ∀ ds, prim p ds = p1 (fun d => (seqOf d).bind f) ds) (hf : ∀ (H Hf : Hp) (a : Addr) (xs : List V) (d : PyData) (ds : List PyData) (sv : SV) (Q : VK), Same Hf H → RpO X.K H Hf (.ref a) d → seqOf d = some ds → (SqL X.K H a xs ∨ SqT X.K H a xs) → xs.length ≤ sizeLine → RpAll X.K Hf xs ds → f ds = some sv → (∀ v H', PPost X.K H Hf H' v sv → Q v H') → r [.ref a] H Q) : PrimR X.K p r :=
  prim1l hp fun H Hf x d sv Q s rx e q => by
    rw [Option.bind_eq_some_iff] at e
    obtain ⟨ds, e1, e2⟩ := e
    obtain ⟨a, xs, rfl, h1, h2, h3⟩ := rx.seq s e1
    exact hf H Hf a xs d ds sv Q s rx e1 h1 h2 h3 e2 q
theorem pi2l {p : Pr} {f : Int → Int → Option SV} {r : List V → Hp → VK → Prop} (hp : ∀ ds, prim p ds = pInt2 f ds) (hf : ∀ (H Hf : Hp) (i j : Int) (sv : SV) (Q : VK), Same Hf H → f i j = some sv → (∀ v H', PPost X.K H Hf H' v sv → Q v H') → r [.int i, .int j] H Q) : PrimR X.K p r := by
  intro H Hf vs ds sv Q s rr e q
  rw [hp] at e
  unfold pInt2 at e
  split at e
  · obtain ⟨x, y, rfl, h1, h2⟩ := rr.two
    obtain rfl := h1.int
    obtain rfl := h2.int
    exact hf H Hf _ _ sv Q s e q
  · cases e
theorem r_len : PrimR X.K .len (fun xs H Q => ∃ p ys, xs = [.ref p] ∧ (SqL X.K H p ys ∨ SqT X.K H p ys) ∧ Q (.int ys.length) H) :=
  prim_sq (fun _ => rfl) fun H Hf a xs d ds sv Q s _ _ h1 h2 h3 e q => by
    cases e
    refine ⟨a, xs, rfl, h1, ?_⟩
    rw [h3.length]
    exact q _ H (pp_same s (.int _))
theorem r_tuple : PrimR X.K .tuple (fun xs H Q => ∃ p ys, xs = [.ref p] ∧ ((SqL X.K H p ys ∧ ∀ l, H l = none → Q (.ref l) (upd H l (.tup ys))) ∨ (SqT X.K H p ys ∧ Q (.ref p) H))) :=
  prim1l (fun _ => rfl) fun H Hf x d sv Q s rx e q => by
    rw [Option.bind_eq_some_iff] at e
    obtain ⟨ds, e1, e2⟩ := e
    cases e2
    cases d with
    | list ds' =>
      cases e1
      obtain ⟨a, xs, rfl, h1, h2, h3⟩ := rx.list s
      exact ⟨a, xs, rfl, .inl ⟨SqL.of h1, fun l n => q _ _ (pp_tup s n h2 h3)⟩⟩
    | tuple ds' =>
      cases e1
      obtain ⟨a, xs, rfl, h1, h2, h3, h4⟩ := rx.tuple s
      exact ⟨a, xs, rfl, .inr ⟨h1, q _ H (pp_same s h4)⟩⟩
    | _ => simp [seqOf] at e1
theorem r_list : PrimR X.K .list (fun xs H Q => ∃ p ys, xs = [.ref p] ∧ (SqL X.K H p ys ∨ SqT X.K H p ys) ∧ ∀ l, H l = none → Q (.ref l) (upd H l (.lst ys))) :=
  prim_sq (fun _ => rfl) fun H Hf a xs d ds sv Q s _ _ h1 h2 h3 e q => by
    cases e
    exact ⟨a, xs, rfl, h1, fun l n => q _ _ (pp_lst n h2 h3)⟩
theorem r_abs : PrimR X.K .abs (fun xs H Q => ∃ i, xs = [.int i] ∧ Q (.int (if i < 0 then -i else i)) H) :=
  prim_i1l (fun _ => rfl) fun H Hf i sv Q s e q => by
    cases e
    exact ⟨i, rfl, q _ H (pp_same s (.int _))⟩
theorem r_int : PrimR X.K .int (fun xs H Q => (∃ i, xs = [.int i] ∧ Q (.int i) H) ∨ ∃ k, xs = [.bl k] ∧ Q (.int (if k then 1 else 0)) H) :=
  prim1l (fun _ => rfl) fun H Hf x d sv Q s rx e q => by
    unfold pInt at e
    split at e
    · cases e; obtain rfl := rx.int; exact .inl ⟨_, rfl, q _ H (pp_same s (.int _))⟩
    · cases e; obtain rfl := rx.bool; exact .inr ⟨_, rfl, q _ H (pp_same s (.int _))⟩
    · cases e
theorem r_min2 : PrimR X.K .min2 (fun xs H Q => ∃ i j, xs = [.int i, .int j] ∧ Q (.int (if j < i then j else i)) H) :=
  pi2l (fun _ => rfl) fun H Hf i j sv Q s e q => by cases e; exact ⟨i, j, rfl, q _ H (pp_same s (.int _))⟩
theorem r_max2 : PrimR X.K .max2 (fun xs H Q => ∃ i j, xs = [.int i, .int j] ∧ Q (.int (if j > i then j else i)) H) :=
  pi2l (fun _ => rfl) fun H Hf i j sv Q s e q => by cases e; exact ⟨i, j, rfl, q _ H (pp_same s (.int _))⟩
theorem r_all : PrimR X.K .all (rAll X.K) :=
  prim_l1l (fun _ => rfl) fun H Hf a xs ds sv Q s h1 h2 h3 e q => by
    rw [Option.bind_eq_some_iff] at e
    obtain ⟨bs, e1, e2⟩ := e
    cases e2
    exact ⟨a, bs, rfl, by rw [← h3.ofBools e1]; exact SqL.of h1, q _ H (pp_same s (.bl _))⟩
theorem r_any : PrimR X.K .any (rAny X.K) :=
  prim_l1l (fun _ => rfl) fun H Hf a xs ds sv Q s h1 h2 h3 e q => by
    rw [Option.bind_eq_some_iff] at e
    obtain ⟨bs, e1, e2⟩ := e
    cases e2
    exact ⟨a, bs, rfl, by rw [← h3.ofBools e1]; exact SqL.of h1, q _ H (pp_same s (.bl _))⟩
theorem r_sum : PrimR X.K .sum (rSum X.K) :=
  prim_l1l (fun _ => rfl) fun H Hf a xs ds sv Q s h1 h2 h3 e q => by
    rw [Option.bind_eq_some_iff] at e
    obtain ⟨ns, e1, e2⟩ := e
    cases e2
    exact ⟨a, ns, rfl, by rw [← h3.ofInts e1]; exact SqL.of h1, q _ H (pp_same s (.int _))⟩
/-! ### sorting -/
theorem insI_perm (x : Int) : ∀ l : List Int, (insI x l).Perm (x :: l)
  | [] => List.Perm.refl _
  | y :: r => by
    unfold insI
    split
    · exact List.Perm.refl _
    · exact ((insI_perm x r).cons y).trans (List.Perm.swap x y r)
theorem srtI_perm : ∀ l : List Int, (srtI l).Perm l
  | [] => List.Perm.refl _
  | x :: r => (insI_perm x (srtI r)).trans ((srtI_perm r).cons x)
theorem insI_sorted (x : Int) : ∀ l : List Int, l.Pairwise (· ≤ ·) → (insI x l).Pairwise (· ≤ ·)
  | [], _ => by simp [insI]
  | y :: r, h => by
    unfold insI
    rw [List.pairwise_cons] at h
    split
    · rename_i c
      refine List.pairwise_cons.mpr ⟨fun z hz => ?_, List.pairwise_cons.mpr h⟩
      rcases List.mem_cons.mp hz with rfl | hz
      · exact c
      · exact Int.le_trans c (h.1 z hz)
    · rename_i c
      refine List.pairwise_cons.mpr ⟨fun z hz => ?_, insI_sorted x r h.2⟩
      have hz' := (insI_perm x r).mem_iff.mp hz
      rcases List.mem_cons.mp hz' with rfl | hz'
      · omega
      · exact h.1 z hz'
theorem srtI_sorted : ∀ l : List Int, (srtI l).Pairwise (· ≤ ·)
  | [] => List.Pairwise.nil
  | x :: r => insI_sorted x _ (srtI_sorted r)
theorem srt_uniq : ∀ {l m : List Int}, l.Perm m → l.Pairwise (· ≤ ·) → m.Pairwise (· ≤ ·) → l = m
  | [], m, p, _, _ => (List.Perm.nil_eq p)
  | x :: l, [], p, _, _ => absurd p.length_eq (by simp)
  | x :: l, y :: m, p, a, b => by
    rw [List.pairwise_cons] at a b
    have hx : x ∈ y :: m := p.mem_iff.mp List.mem_cons_self
    have hy : y ∈ x :: l := p.mem_iff.mpr List.mem_cons_self
    have e : x = y := by
      rcases List.mem_cons.mp hx with e | hx
      · exact e
      · rcases List.mem_cons.mp hy with e | hy
        · exact e.symm
        · have := a.1 y hy; have := b.1 x hx; omega
    subst e
    rw [srt_uniq (List.Perm.cons_inv p) a.2 b.2]
theorem r_sorted : PrimR X.K .sorted (rSortedI X.K) :=
  prim_l1l (fun _ => rfl) fun H Hf a xs ds sv Q s h1 h2 h3 e q => by
    rw [Option.bind_eq_some_iff] at e
    obtain ⟨ns, e1, e2⟩ := e
    cases e2
    have ex := h3.ofInts e1
    refine ⟨a, ns, rfl, by rw [← ex]; exact SqL.of h1, fun ns' p hp hs n => ?_⟩
    have e : ns' = srtI ns := srt_uniq (hp.trans (srtI_perm ns).symm) hs (srtI_sorted ns)
    subst e
    refine q _ _ (pp_lst n ?_ (RpAll.intv _))
    have := hp.length_eq
    rw [ex, List.length_map] at h2
    rw [List.length_map, this]; exact h2
end
end LI

set_option Elab.async false
set_option linter.all false
set_option autoImplicit false
set_option maxRecDepth 100000
set_option maxHeartbeats 4000000
namespace LI
open PySem PySem.Spec PyProof.Rows L2
/-! ### set(xs) of a list of ints -/
abbrev fso (w : World) : Obj := { cls := .type "set", dict := none, data := .set #[] 0 (.fresh 0 0 (!w.params.followText "set-order")) }
section
variable {P : Program} {w : World} {A : Around} {E : Value → Shared → Prop} {s : Shared}
theorem set_lstI {l : Addr} {items : Array Value} (ns : List Int) {Q : Value → Shared → Prop} (hh : A.handled = none) (hl : s.heap.IsList l items) (hit : IntsAre items.toList ns) (hb : ns.length + 1 < scanBound)
    (h : ∀ (h' : Heap) (tk c : Nat), SetR w h' s.heap.objs.size (fun j => decide (j ∈ ns)) c → c ≤ ns.length → (∀ b o, s.heap.get? b = some o → h'.get? b = some o) → Q (.ref s.heap.objs.size) { s with heap := h', toks := tk }) :
    wpAny (model P w) A (call (.type "set") [.ref l]) Q E s := by
  have iz : items.size = ns.length := by have q := IntsAre.length hit; rw [Array.length_toList] at q; exact q
  obtain ⟨c, tl, hmro⟩ := F.called_set.mro
  have hmade := F.called_set.made
  have hsub := F.called_set.sub
  refine wpAny_call (codeAny_of_tree ?_); show wpAny _ _ (callAny (.type "set") _) _ _ _
  refine wpAny_pure ⟨Code.quiet_builtin _ (by decide +kernel), codeAny_builtin F.entry_type_call ?_⟩; rw [Around.under_plain (weight_type_call_type "set" [.ref l] []) rfl]
  have h1 := F.called_set.notType
  have h2 := F.called_set.canCreate
  have hct := F.typeCall_set_1 (.ref l)
  repeat (any_goals (first | assumption | wp_step))
  refine codeAny_mono (code_set_led1 (.ref l) (E := E) (Q₁ := fun obj s1 => obj = .ref s.heap.objs.size ∧ s1 = { s with heap := s.heap.push (fso w) }) ⟨rfl, rfl⟩) fun r s1 hr => ?_
  cases r with
  | error e => exact hr
  | ok fl =>
    cases fl with
    | ret obj =>
      obtain ⟨rfl, rfl⟩ := hr
      have hS : (s.heap.push (fso w)).get? s.heap.objs.size = some (fso w) := Heap.get?_push_size _ rfl
      have hT : Shared.TypeIs { s with heap := s.heap.push (fso w) } (.ref s.heap.objs.size) "set" := ⟨_, hS, rfl⟩
      have hli := F.called_set.init.lookup
      have hbi := F.called_set.init.bind (.ref s.heap.objs.size)
      repeat (any_goals (first | assumption | wp_step))
      refine codeAny_mono (codeAny_call_builtin (R := wants (fun r s2 => r = .none ∧ ∃ h' tk c, s2 = { s with heap := h', toks := tk } ∧ SetR w h' s.heap.objs.size (fun j => decide (j ∈ ns)) c ∧ c ≤ ns.length ∧ (∀ b o, s.heap.get? b = some o → h'.get? b = some o)) E)
        F.called_set.init.plain F.entry_set_init (check_set_init_1 hT ?_)) fun r2 s2 hr2 => ?_
      · obtain ⟨ol, hol, hcl, nl, hdl⟩ := hl
        obtain ⟨ocls, odict, odata, oslots⟩ := ol
        dsimp only at hcl hdl
        subst hcl hdl
        have hol' : (s.heap.push (fso w)).get? l = some { cls := .type "list", dict := odict, data := .seq items nl, slots := oslots } := Heap.get?_push_of_some _ hol
        have hsls := F.sub_list_set
        have hslf := F.sub_list_frozenset
        have hne : (Value.type "list" == Value.type "dict") = false := by decide
        have hl1 : (s.heap.push (fso w)).IsList l items := ⟨_, hol', rfl, nl, rfl⟩
        unfold Builtin.«set.__init__» noKeywords Builtin.Frozenset.updateFrom
        generalize hPI : pyIter = PI
        wp_walk
        subst hPI
        refine wpAny_pyIter_list hl1 (wpAny_bind (wpAny_runValue ?_))
        have hlS : l < s.heap.objs.size := Heap.lt_size hol
        have hh3 : A.in1.in1.in1.handled = none := by simp [hh]
        have hneI : l ≠ (s.heap.push (fso w)).objs.size := by rw [Heap.size_push]; exact Nat.ne_of_lt (Nat.lt_succ_of_lt hlS)
        have hSf : s.heap.objs.size ∉ [(s.heap.push (fso w)).objs.size, l] := by
          rw [Heap.size_push]; simp only [List.mem_cons, List.mem_singleton, List.not_mem_nil, or_false, not_or]; exact ⟨Nat.ne_of_lt (Nat.lt_succ_self _), Nat.ne_of_gt hlS⟩
        have hval : ∀ (i : Nat) (v : Value), items[i]? = some v → ∃ k t, ns[i]? = some k ∧ v = .int k t := fun i v hv => by
          have hi : i < ns.length := by rw [← iz]; exact (Array.getElem?_eq_some_iff.mp hv).1
          obtain ⟨t, e⟩ := PyProof.Rows.IntsAre.int_at hit i v (by rw [Array.getElem?_toList]; exact hv)
          refine ⟨ns[i], t, List.getElem?_eq_getElem hi, ?_⟩
          rw [e, List.getD_eq_getElem?_getD, List.getElem?_eq_getElem hi] <;> rfl
        refine set_update_ints ((Walks.list hh3 _ l hneI items).toS) s.heap.objs.size hSf ns iz hb hval (items.size - 0) 0 _ (by omega) (Nat.zero_le _) ⟨⟨_, Heap.get?_push_size _ rfl, rfl, rfl⟩, (hl1.push _)⟩ ?hS0 ?hR
        case hS0 => exact ⟨0, Nat.le_refl 0, setR_new_at (Heap.get?_push_of_some _ hS)⟩
        case hR =>
          intro s' c' hm hc' hS'
          obtain ⟨h', g2, d', tk', os'⟩ := s'
          have eg : g2 = s.gens := hm.gens
          have ed : d' = s.drawn := hm.drawn
          have eo : os' = s.os := hm.os
          subst eg; subst ed; subst eo
          show wpAny _ _ _ _ _ _
          refine wpAny_pure ?_
          show wpAny _ _ (ret Value.none) _ _ _
          rw [iz] at hc'
          refine wpAny_pure ⟨rfl, h', tk', c', rfl, hS', hc', fun b o e => ?_⟩
          have b0 : b < s.heap.objs.size := Heap.lt_size e
          have b1 : b ≠ s.heap.objs.size := Nat.ne_of_lt b0
          have b2 : b ≠ (s.heap.push (fso w)).objs.size := by rw [Heap.size_push]; exact Nat.ne_of_lt (Nat.lt_succ_of_lt b0)
          exact hm.heap b o (by simp only [List.mem_cons, List.mem_singleton, List.not_mem_nil, or_false, not_or]; exact ⟨b1, b2⟩) (Heap.get?_push_of_some _ (Heap.get?_push_of_some _ e))
      · cases r2 with
        | error e => exact hr2
        | ok fl2 =>
          cases fl2 with
          | ret r =>
            obtain ⟨rfl, h', tk, c', rfl, hS', hc', hk'⟩ := hr2
            repeat (any_goals (first | assumption | wp_step))
            exact h _ _ _ hS' hc' hk'
          | _ => exact hr2.elim
    | _ => exact hr.elim
end
end LI

set_option Elab.async false
set_option linter.all false
set_option autoImplicit false
set_option maxRecDepth 100000
set_option maxHeartbeats 4000000
namespace LI
open PySem PySem.Spec PyProof.Rows L2
section
variable {X : Cx}
/-- set(xs), xs a list or a tuple of ints -/
def rSetI (K : Fg) (w : World) : List V → Hp → VK → Prop := fun xs H Q => ∃ (a : Addr) (ns : List Int), xs = [.ref a] ∧ (SqL K H a (ns.map V.int) ∨ SqT K H a (ns.map V.int)) ∧ ns.length + 1 < scanBound ∧
  ∀ p c, H p = none → Q (.ref p) (upd H p (SetO w p (fun j => decide (j ∈ ns)) c))
theorem cr_setI (hc : X.calm = true) : CallR X (.type "set") (rSetI X.K X.w) := by
  intro pins s σ H xs us Q I r h
  obtain ⟨a, ns, rfl, hq, hb, q⟩ := h
  rw [Vals.ref1 r]
  have fin : ∀ (h' : Heap) (tk c : Nat), SetR X.w h' s.heap.objs.size (fun j => decide (j ∈ ns)) c → c ≤ ns.length → (∀ b o, s.heap.get? b = some o → h'.get? b = some o) → EP X pins σ Q (.ref s.heap.objs.size) { s with heap := h', toks := tk } := fun h' tk c R _ k =>
    ⟨.ref s.heap.objs.size, _, I.laid (o := SetO X.w s.heap.objs.size (fun j => decide (j ∈ ns)) c) k (Nat.le_refl _) (setO_new R), rfl, q _ c (I.hok.fresh (Nat.le_refl _))⟩
  rcases hq with hq | hq
  · obtain ⟨its, rv, pl, hz⟩ := I.list hq
    exact set_lstI ns (I.ok.hd hc) pl.isList (by simpa using rv.ints) hb fin
  · obtain ⟨its, rv, pl, hz⟩ := I.tuple hq
    exact call_set_tupI ns (I.ok.hd hc) pl (by simpa using rv.ints) hb fin
theorem insU_mem (x : Int) : ∀ (l : List Int) (y : Int), y ∈ insU x l ↔ y = x ∨ y ∈ l
  | [], y => by simp [insU]
  | z :: r, y => by
    unfold insU
    split
    · simp
    · split
      · rename_i _ e; subst e; simp
      · simp [insU_mem x r y]
        constructor
        · rintro (h | h | h) <;> simp [h]
        · rintro (h | h | h) <;> simp [h]
theorem srtU_mem : ∀ (l : List Int) (y : Int), y ∈ srtU l ↔ y ∈ l
  | [], y => by simp [srtU]
  | x :: r, y => by simp [srtU, insU_mem, srtU_mem r y]
theorem insU_sorted (x : Int) : ∀ l : List Int, l.Pairwise (· < ·) → (insU x l).Pairwise (· < ·)
  | [], _ => by simp [insU]
  | y :: r, h => by
    unfold insU
    rw [List.pairwise_cons] at h
    split
    · rename_i c
      refine List.pairwise_cons.mpr ⟨fun z hz => ?_, List.pairwise_cons.mpr h⟩
      rcases List.mem_cons.mp hz with rfl | hz
      · exact c
      · exact Int.lt_trans c (h.1 z hz)
    · split
      · exact List.pairwise_cons.mpr h
      · rename_i c d
        refine List.pairwise_cons.mpr ⟨fun z hz => ?_, insU_sorted x r h.2⟩
        rcases (insU_mem x r z).mp hz with rfl | hz
        · omega
        · exact h.1 z hz
theorem srtU_sorted : ∀ l : List Int, (srtU l).Pairwise (· < ·)
  | [] => List.Pairwise.nil
  | x :: r => insU_sorted x _ (srtU_sorted r)
/-- ascending lists with the same members are one -/
theorem asc_uniq : ∀ {l m : List Int}, (∀ z, z ∈ l ↔ z ∈ m) → l.Pairwise (· < ·) → m.Pairwise (· < ·) → l = m
  | [], [], _, _, _ => rfl
  | [], y :: m, h, _, _ => absurd ((h y).mpr List.mem_cons_self) (by simp)
  | x :: l, [], h, _, _ => absurd ((h x).mp List.mem_cons_self) (by simp)
  | x :: l, y :: m, h, a, b => by
    rw [List.pairwise_cons] at a b
    have hx := (h x).mp List.mem_cons_self
    have hy := (h y).mpr List.mem_cons_self
    have e : x = y := by
      rcases List.mem_cons.mp hx with e | hx
      · exact e
      · rcases List.mem_cons.mp hy with e | hy
        · exact e.symm
        · have := a.1 y hy; have := b.1 x hx; omega
    subst e
    rw [asc_uniq (fun z => ?_) a.2 b.2]
    constructor
    · intro hz
      have := (h z).mp (List.mem_cons_of_mem _ hz)
      rcases List.mem_cons.mp this with rfl | q
      · exact absurd (a.1 z hz) (Int.lt_irrefl _)
      · exact q
    · intro hz
      have := (h z).mpr (List.mem_cons_of_mem _ hz)
      rcases List.mem_cons.mp this with rfl | q
      · exact absurd (b.1 z hz) (Int.lt_irrefl _)
      · exact q
end
end LI

set_option Elab.async false
set_option linter.all false
set_option autoImplicit false
set_option maxRecDepth 100000
set_option maxHeartbeats 4000000
namespace LI
open PySem PySem.Spec PyProof.Rows L2
theorem insU_len (x : Int) : ∀ l : List Int, x ∉ l → (insU x l).length = l.length + 1
  | [], _ => rfl
  | y :: r, h => by
    have h1 : x ≠ y := fun e => h (by rw [e]; exact List.mem_cons_self)
    have h2 : x ∉ r := fun e => h (List.mem_cons_of_mem _ e)
    unfold insU
    split
    · rfl
    · first | rw [if_neg h1, List.length_cons, insU_len x r h2, List.length_cons] | rw [List.length_cons, insU_len x r h2, List.length_cons]
theorem srtU_len : ∀ l : List Int, l.Nodup → (srtU l).length = l.length
  | [], _ => rfl
  | x :: r, h => by
    rw [List.nodup_cons] at h
    unfold srtU
    rw [insU_len x _ (fun z => h.1 ((srtU_mem r x).mp z)), srtU_len r h.2, List.length_cons]
theorem setR_card {w : World} {h : Heap} {a : Addr} {ns : List Int} {c : Nat} (R : SetR w h a (fun j => decide (j ∈ ns)) c) : c = (srtU ns).length := by
  obtain ⟨o, es, ep, t, _, _, _, _, nd, hm, _, _, hn, _⟩ := R
  have e : srtU (es.toList.map keyOf) = srtU ns := by
    refine asc_uniq (fun z => ?_) (srtU_sorted _) (srtU_sorted _)
    rw [srtU_mem, srtU_mem]
    have q := hm z
    simp only [decide_eq_true_eq] at q
    exact q.symm
  have e2 := srtU_len _ nd
  rw [e, List.length_map] at e2
  have e3 : es.toList.length = es.size := by simp
  omega
section
variable {X : Cx}
def rSetC (K : Fg) (w : World) : List V → Hp → VK → Prop := fun xs H Q => ∃ (a : Addr) (ns : List Int), xs = [.ref a] ∧ (SqL K H a (ns.map V.int) ∨ SqT K H a (ns.map V.int)) ∧ ns.length + 1 < scanBound ∧
  ∀ p, H p = none → Q (.ref p) (upd H p (SetO w p (fun j => decide (j ∈ ns)) (srtU ns).length))
theorem cr_setC (hc : X.calm = true) : CallR X (.type "set") (rSetC X.K X.w) := by
  intro pins s σ H xs us Q I r h
  obtain ⟨a, ns, rfl, hq, hb, q⟩ := h
  rw [Vals.ref1 r]
  have fin : ∀ (h' : Heap) (tk c : Nat), SetR X.w h' s.heap.objs.size (fun j => decide (j ∈ ns)) c → c ≤ ns.length → (∀ b o, s.heap.get? b = some o → h'.get? b = some o) → EP X pins σ Q (.ref s.heap.objs.size) { s with heap := h', toks := tk } := fun h' tk c R _ k => by
    have e := setR_card R
    subst e
    exact ⟨.ref s.heap.objs.size, _, I.laid (o := SetO X.w s.heap.objs.size (fun j => decide (j ∈ ns)) (srtU ns).length) k (Nat.le_refl _) (setO_new R), rfl, q _ (I.hok.fresh (Nat.le_refl _))⟩
  rcases hq with hq | hq
  · obtain ⟨its, rv, pl, hz⟩ := I.list hq
    exact set_lstI ns (I.ok.hd hc) pl.isList (by simpa using rv.ints) hb fin
  · obtain ⟨its, rv, pl, hz⟩ := I.tuple hq
    exact call_set_tupI ns (I.ok.hd hc) pl (by simpa using rv.ints) hb fin
def rSS (K : Fg) (w : World) : List V → Hp → VK → Prop := fun vs H Q => rSetC K w vs H fun v H2 => rSortedSet w [v] H2 Q
theorem r_ss : PrimR X.K .sortedset (rSS X.K X.w) :=
  prim_sq (fun _ => rfl) fun H Hf a xs d ds sv Q s _ _ h1 h2 h3 e q => by
    unfold pSet at e
    rw [Option.bind_eq_some_iff] at e
    obtain ⟨ns, e1, e2⟩ := e
    split at e2
    · rename_i c
      cases e2
      have ex := h3.ofInts e1
      subst ex
      refine ⟨a, ns, rfl, h1, by unfold scanBound; exact c.1, fun p np => ?_⟩
      refine ⟨p, _, _, rfl, upd_same, c.2, fun ns' p' hs hm hl hn => ?_⟩
      have e : ns' = srtU ns := asc_uniq (fun z => by rw [srtU_mem, hm z]; simp) hs (srtU_sorted ns)
      subst e
      have np' : H p' = none := by
        cases q : H p' with
        | none => rfl
        | some o =>
          have : p' ≠ p := fun z => by rw [z, np] at q; cases q
          rw [upd_ne this, q] at hn; cases hn
      have hz : ((srtU ns).map V.int).length ≤ sizeLine := by rw [List.length_map, sizeLine_eq]; omega
      refine q _ _ ⟨fun b o hb => ?_, p', _, rfl, upd_same, np', _, _, rfl, rfl, hz, RpAll.intv _⟩
      rw [upd_ne (ne_of_none hb np'), upd_ne (ne_of_none hb np)]
      exact hb
    · cases e2
theorem p_ss {e : Expr} {p1 p2 q1 q2 : Pos} (hc : X.calm = true) (g1 : Gl X "sorted") (m1 : X.mg "sorted" = none) (g2 : Gl X "set") (m2 : X.mg "set" = none) (hs : noStar e = true) :
    PrimOk X .sortedset (.Call (.Name "sorted" p1) [.Call (.Name "set" p2) [e] [] q2] [] q1) [e] := by
  intro ts h
  cases h with
  | cons ha h =>
    cases h
    refine ⟨rSS X.K X.w, ?_, r_ss⟩
    have i1 := pe_callTy (pos := q2) (p := p2) (x := "set") (cr_setC hc) g2 m2 (by decide +kernel) (pa_cons ha pa_nil (starEach_no hs)) (by decide) (by decide) (starEach_no hs) rfl
    have i2 := pe_callB (pos := q1) (p := p1) (x := "sorted") (cr_sortedSet hc) g1 m1 (by decide +kernel) (pa_cons i1 pa_nil rfl) (by decide) (by decide) rfl rfl
    exact i2
/-! ### ranges as lists and tuples -/
theorem okRg_c {a b : Int} (h : okRg a b = true) : RgOk a b := by
  unfold okRg at h
  simp only [Bool.and_eq_true, decide_eq_true_eq] at h
  exact ⟨h.1.1.1.1, h.1.1.1.2, h.1.1.2, h.1.2, h.2⟩
theorem rg_rp {K : Fg} {H : Hp} (a b : Int) : RpAll K H (rgV a b) (rgD a b) := by
  unfold rgV rgD
  generalize List.range (b - a).toNat = l
  induction l with
  | nil => exact .nil
  | cons x r ih => exact .cons (.int _) ih
theorem rgV_z {a b : Int} (h : RgOk a b) : (rgV a b).length ≤ sizeLine := by
  rw [rgV_length, sizeLine_eq]
  have := h.2.2.2.2
  omega
theorem p_lr1 {e : Expr} {p1 p2 q1 q2 : Pos} (hc : X.calm = true) (g1 : Gl X "list") (m1 : X.mg "list" = none) (g2 : Gl X "range") (m2 : X.mg "range" = none) (hs : noStar e = true) :
    PrimOk X .lrange1 (.Call (.Name "list" p1) [.Call (.Name "range" p2) [e] [] q2] [] q1) [e] := by
  intro ts h
  cases h with
  | cons ha h =>
    cases h
    refine ⟨R1l fun x H Q => ∃ n, x = .int n ∧ (RgOk 0 n ∧ ∀ q, H q = none → Q (.ref q) (upd H q (.lst (rgV 0 n)))), pe_listRg hc g1 m1 (prg_1 g2 m2 ha (starEach_no hs)) rfl, ?_⟩
    exact prim_i1 (fun _ => rfl) fun H Hf i sv Q s e q => by
      split at e
      · rename_i c
        cases e
        have c := okRg_c c
        exact ⟨i, rfl, c, fun p n => q _ _ (pp_lst n (rgV_z c) (rg_rp 0 i))⟩
      · cases e
theorem p_tr1 {e : Expr} {p1 p2 q1 q2 : Pos} (hc : X.calm = true) (g1 : Gl X "tuple") (m1 : X.mg "tuple" = none) (g2 : Gl X "range") (m2 : X.mg "range" = none) (hs : noStar e = true) :
    PrimOk X .trange1 (.Call (.Name "tuple" p1) [.Call (.Name "range" p2) [e] [] q2] [] q1) [e] := by
  intro ts h
  cases h with
  | cons ha h =>
    cases h
    refine ⟨R1l fun x H Q => ∃ n, x = .int n ∧ (RgOk 0 n ∧ ∀ q, H q = none → Q (.ref q) (upd H q (.tup (rgV 0 n)))), pe_tupRg hc g1 m1 (prg_1 g2 m2 ha (starEach_no hs)) rfl, ?_⟩
    exact prim_i1 (fun _ => rfl) fun H Hf i sv Q s e q => by
      split at e
      · rename_i c
        cases e
        have c := okRg_c c
        exact ⟨i, rfl, c, fun p n => q _ _ (pp_tup s n (rgV_z c) (rg_rp 0 i))⟩
      · cases e
theorem p_lr2 {e f : Expr} {p1 p2 q1 q2 : Pos} (hc : X.calm = true) (g1 : Gl X "list") (m1 : X.mg "list" = none) (g2 : Gl X "range") (m2 : X.mg "range" = none) (hs : noStar e = true) (hs2 : noStar f = true) :
    PrimOk X .lrange2 (.Call (.Name "list" p1) [.Call (.Name "range" p2) [e, f] [] q2] [] q1) [e, f] := by
  intro ts h
  cases h with
  | cons ha h =>
    cases h with
    | cons hb h =>
      cases h
      refine ⟨R2l fun x y H Q => ∃ i j, x = .int i ∧ y = .int j ∧ (RgOk i j ∧ ∀ q, H q = none → Q (.ref q) (upd H q (.lst (rgV i j)))), pe_listRg hc g1 m1 (prg_2 g2 m2 ha hb (starEach_no hs) (starEach_no hs2) (any_no (by simp [hs2]))) rfl, ?_⟩
      intro H Hf vs ds sv Q s rr e q
      simp only [prim] at e
      unfold pInt2 at e
      split at e
      · obtain ⟨x, y, rfl, h1, h2⟩ := rr.two
        obtain rfl := h1.int
        obtain rfl := h2.int
        dsimp only at e
        split at e
        · rename_i c
          cases e
          have c := okRg_c c
          exact ⟨_, _, rfl, rfl, c, fun p n => q _ _ (pp_lst n (rgV_z c) (rg_rp _ _))⟩
        · cases e
      · cases e
end
end LI

set_option Elab.async false
set_option linter.all false
set_option autoImplicit false
set_option maxRecDepth 100000
set_option maxHeartbeats 4000000
namespace LI
open PySem PySem.Spec PyProof.Rows L2
def tyS : PyData → String
  | .none => "NoneType"
  | .bool _ => "bool"
  | .int _ => "int"
  | .str _ => "str"
  | .list _ => "list"
  | .tuple _ => "tuple"
  | .dict _ => "list"
def kdS : Kd → String
  | .list => "list"
  | .tuple => "tuple"
  | .int => "int"
  | .bool => "bool"
  | .str => "str"
theorem sqT_ty {K : Fg} {H : Hp} {a : Addr} {xs : List V} (h : SqT K H a xs) : TyX K H (.ref a) (.type "tuple") := by
  rcases h with (h | ⟨o, h⟩) | ⟨o, its, n, hk, hc, _⟩
  · exact .base (.tup h)
  · exact .fTuple h
  · exact .kTuple hk hc
inductive Td where
  | non | bl | int | str | lst | tup
  deriving DecidableEq
def td : PyData → Td
  | .none => .non
  | .bool _ => .bl
  | .int _ => .int
  | .str _ => .str
  | .list _ => .lst
  | _ => .tup
def tdS : Td → String
  | .non => "NoneType"
  | .bl => "bool"
  | .int => "int"
  | .str => "str"
  | .lst => "list"
  | .tup => "tuple"
def kdT : Kd → Td → Bool
  | k, .lst => k == .list
  | k, .tup => k == .tuple
  | k, .int => k == .int
  | k, .bl => k == .bool || k == .int
  | k, .str => k == .str
  | _, .non => false
theorem kit_td (k : Kd) (t : Td) : kitB (tdS t) (kdS k) = some (kdT k t) := by
  cases k <;> cases t <;> decide +kernel
theorem kd_td (k : Kd) (d : PyData) (nd : noDict d = true) : kindIs k d = kdT k (td d) := by
  cases d <;> first | rfl | (simp [noDict] at nd)
theorem rp_ty {K : Fg} {H Hf : Hp} {v : V} {d : PyData} (s : Same Hf H) (h : RpO K H Hf v d) (nd : noDict d = true) : TyX K H v (.type (tdS (td d))) := by
  have q := h.rp s
  clear h
  cases q with
  | non => exact .base .non
  | bl b => exact .base (.bl b)
  | int i => exact .base (.int i)
  | str x => exact .base (.str x)
  | lst h _ _ => exact .base (.lst h)
  | tup h _ _ => exact sqT_ty (SqT.of h)
  | dct _ _ => simp [noDict] at nd
  | scr _ _ _ => simp [noDict] at nd
theorem kit_kd {K : Fg} (d : PyData) (nd : noDict d = true) (k : Kd) : PySem.W.kitOne K (.type (tdS (td d))) (.type (kdS k)) = some (kindIs k d) := by
  rw [kd_td k d nd]
  exact kit_ty (kit_td k (td d))
theorem kit_any {K : Fg} (d : PyData) (nd : noDict d = true) : ∀ ks : List Kd, PySem.W.kitAny K (.type (tdS (td d))) (ks.map fun k => Value.type (kdS k)) = some (ks.any fun k => kindIs k d)
  | [] => rfl
  | k :: ks => by
    refine kitAny_cons (kit_kd d nd k) (fun e => ?_) fun e => ?_
    · rw [List.any_cons, e, Bool.false_or]; exact kit_any d nd ks
    · rw [List.any_cons, e, Bool.true_or]
section
variable {X : Cx}
/-- the names of the classes stand as built-ins -/
def kdN (k : Kd) : Str := Str.ofString (kdS k)
theorem kd_boot (k : Kd) : bootBuiltins (kdN k) = some (.type (kdS k)) := by cases k <;> decide +kernel
theorem kd_nm (k : Kd) : kdN k ≠ "__name__" := by cases k <;> decide +kernel
theorem kd_db (k : Kd) : (kdN k == ("__debug__" : Str)) = false := by cases k <;> decide +kernel
theorem pe_kd (k : Kd) {p : Pos} (g : Gl X (kdN k)) (m : X.mg (kdN k) = none) : PE X (.Name (kdN k) p) (tC (.ty (kdS k))) := pe_bltn g m (kd_boot k) rfl (kd_nm k) (kd_db k)
theorem p_isi1 {k : Kd} {e : Expr} {p1 p2 pos : Pos} (g : Gl X "isinstance") (m : X.mg "isinstance" = none) (gk : Gl X (kdN k)) (mk : X.mg (kdN k) = none) (hs : noStar e = true) :
    PrimOk X (.isi [k]) (.Call (.Name "isinstance" p1) [e, .Name (kdN k) p2] [] pos) [e] := by
  intro ts h
  cases h with
  | cons ha h =>
    cases h
    refine ⟨R1l fun x H Q => rIsi X.K [x, .ty (kdS k)] H Q, ?_, ?_⟩
    · have i := pe_callB (pos := pos) (p := p1) (x := "isinstance") call_isi g m (by decide +kernel) (pa_cons ha (pa_cons (pe_kd (p := p2) k gk mk) pa_nil rfl) (starEach_no hs)) (by decide) (by decide) (starEach_no hs) rfl
      exact i
    · exact prim1 (fun _ => rfl) fun H Hf x d sv Q s rx e q => by
        split at e
        · rename_i nd
          cases e
          refine ⟨x, .ty (kdS k), .type (tdS (td d)), .type (kdS k), kindIs k d, rfl, .ty _, rp_ty s rx nd, kit_kd d nd k, ?_⟩
          have e : ([k].any fun k => kindIs k d) = kindIs k d := by simp
          rw [e] at q
          exact q _ H (pp_same s (.bl _))
        · cases e
/-- the display of some classes -/
theorem pa_kds : ∀ (ks : List Kd) (ps : List Pos), ps.length = ks.length → (∀ k ∈ ks, Gl X (kdN k) ∧ X.mg (kdN k) = none) → PA X ((ks.zip ps).map fun q => Expr.Name (kdN q.1) q.2) (tL (ks.map fun k => tC (.ty (kdS k))))
  | [], _, _, _ => pa_nil
  | k :: ks, [], h, _ => by simp at h
  | k :: ks, p :: ps, h, g => pa_cons (pe_kd k (g k List.mem_cons_self).1 (g k List.mem_cons_self).2) (pa_kds ks ps (by simpa using h) fun k hk => g k (List.mem_cons_of_mem _ hk)) rfl
theorem tL_kds : ∀ (ks : List Kd) (σ : Sg) (H : Hp) (Q : List V → Hp → Prop), Q (ks.map fun k => .ty (kdS k)) H → tL (ks.map fun k => tC (.ty (kdS k))) σ H Q
  | [], _, _, _, h => h
  | k :: ks, σ, H, Q, h => tL_kds ks σ H (fun xs H2 => Q (.ty (kdS k) :: xs) H2) h
theorem cls_kds : ∀ ks : List Kd, Paired ClsV (ks.map fun k => V.ty (kdS k)) (ks.map fun k => Value.type (kdS k))
  | [] => .nil
  | k :: ks => .cons (.ty _) (cls_kds ks)
theorem pe_weak {e : Expr} {t t' : TE} (h : PE X e t) (w : ∀ σ H Q, t' σ H Q → t σ H Q) : PE X e t' := ⟨fun pins s σ H Q I q => h.run pins s σ H Q I (w σ H Q q)⟩
theorem p_isi {ks : List Kd} {e : Expr} {ps : List Pos} {kk : Nat} {p1 p2 pos : Pos} (hl : ps.length = ks.length) (h30 : ks.length ≤ 30) (g : Gl X "isinstance") (m : X.mg "isinstance" = none) (gk : ∀ k ∈ ks, Gl X (kdN k) ∧ X.mg (kdN k) = none) (hs : noStar e = true) :
    PrimOk X (.isi ks) (.Call (.Name "isinstance" p1) [e, .Tuple ((ks.zip ps).map fun q => Expr.Name (kdN q.1) q.2) kk p2] [] pos) [e] := by
  intro ts h
  cases h with
  | cons ha h =>
    cases h
    refine ⟨R1l fun x H Q => ∀ tp, H tp = none → rIsiT X.K [x, .ref tp] (upd H tp (.tup (ks.map fun k => .ty (kdS k)))) Q, ?_, ?_⟩
    · have t2 : PE X (.Tuple ((ks.zip ps).map fun q => Expr.Name (kdN q.1) q.2) kk p2) (fun σ H Q => ∀ tp, H tp = none → Q (.ref tp) (upd H tp (.tup (ks.map fun k => .ty (kdS k))))) := by
        refine pe_weak (pe_tup (pa_kds ks ps hl gk)) fun σ H Q q => ?_
        refine tL_kds ks σ H _ ⟨?_, q⟩
        rw [List.length_map, sizeLine_eq]; omega
      have i := pe_callB (pos := pos) (p := p1) (x := "isinstance") call_isiT g m (by decide +kernel) (pa_cons ha (pa_cons t2 pa_nil rfl) (starEach_no hs)) (by decide) (by decide) (starEach_no hs) rfl
      exact i
    · exact prim1 (fun _ => rfl) fun H Hf x d sv Q s rx e q => by
        split at e
        · rename_i nd
          cases e
          intro tp hn
          have s2 : Same Hf (upd H tp (.tup (ks.map fun k => .ty (kdS k)))) := s.trans (same_new hn)
          have rx2 : RpO X.K (upd H tp (.tup (ks.map fun k => .ty (kdS k)))) Hf x d := by
            rcases rx with rx | ⟨a, o, h1, h2, h3⟩
            · exact .inl rx
            · exact .inr ⟨a, o, h1, same_new hn _ _ h2, h3⟩
          exact ⟨x, tp, _, .type (tdS (td d)), _, _, rfl, upd_same, cls_kds ks, rp_ty s2 rx2 nd, kit_any d nd ks, q _ _ ⟨same_new hn, Hf, Same.refl _, s2, fun _ z => .inl z, .bl _⟩⟩
        · cases e
end
end LI

set_option Elab.async false
set_option linter.all false
set_option autoImplicit false
set_option maxRecDepth 100000
set_option maxHeartbeats 4000000
namespace LI
open PySem PySem.Spec PyProof.Rows L2
theorem isE_all {K : Fg} {H : Hp} {vs : List V} {ds : List PyData} (h : RpAll K H vs ds) : vs.isEmpty = ds.isEmpty := by cases h <;> rfl
theorem tru_rp {K : Fg} {H : Hp} {v : V} {d : PyData} {t : Bool} (h : Rp K H v d) (e : truth d = some t) : TruV K v H t := by
  cases h with
  | non => cases e; rfl
  | bl b => cases e; rfl
  | int i => cases e; rfl
  | str x => cases e
  | lst h z r => cases e; exact .inl ⟨_, SqL.of h, by rw [isE_all r]⟩
  | tup h z r => cases e; exact .inr (.inl ⟨_, SqT.of h, by rw [isE_all r]⟩)
  | dct h r => cases e
  | scr h z r => cases e
theorem tru_rpv {K : Fg} {B : List V} {σ σ' : Sg} {ρ ρ' : Rho} {H H' Hf' : Hp} {v : V} {r : SV} {t : Bool} (s : SRel K B σ' H' Hf' ρ') (h : RpV K σ ρ H σ' ρ' H' Hf' v r) (e : truth r.d = some t) : TruV K v H' t := by
  cases r with
  | dat d => exact tru_rp (h.mono s.sub) e
  | own u d =>
    obtain ⟨a, o, rfl, h2, h3, ⟨xs, ds, rfl, rfl, h5, h6⟩, _⟩ := h
    exact tru_rp (.lst h2 h5 (h6.mono s.sub)) e
section
variable {X : Cx} {φ : Fn}
theorem bindE {α β : Type} {x : Option α} {f : α → Option β} {y : β} (h : x.bind f = some y) : ∃ a, x = some a ∧ f a = some y := Option.bind_eq_some_iff.mp h
/-! ### and, or, not, if as values -/
theorem snd_one {op : BoolOp} {a : Expr} {pos : Pos} {ev : Rho → Option (SV × Rho)} (h : SndE X a ev) : SndE X (.BoolOp op [a] pos) ev := by
  obtain ⟨te, p, h⟩ := h
  exact ⟨te, pe_one p, h⟩
theorem snd_and {a b : Expr} {rest : List Expr} {pos : Pos} {c d : E} (h1 : SndE X a (evE φ c)) (h2 : SndE X (.BoolOp .And (b :: rest) pos) (evE φ d)) : SndE X (.BoolOp .And (a :: b :: rest) pos) (evE φ (.andE c d)) := by
  obtain ⟨ta, p1, h1⟩ := h1
  obtain ⟨tb, p2, h2⟩ := h2
  refine ⟨_, pe_andT p1 p2, fun B σ H Hf ρ ρ' r Q s e q => ?_⟩
  simp only [evE] at e
  obtain ⟨⟨v, ρ1⟩, e1, e⟩ := bindE e
  obtain ⟨t, e2, e⟩ := bindE e
  refine h1 B σ H Hf ρ ρ1 v _ s e1 fun x H1 Hf1 s1 t1 rv => ⟨t, tru_rpv s1 rv e2, ?_⟩
  cases t with
  | true =>
    simp only [if_true] at e ⊢
    exact h2 B σ H1 Hf1 ρ1 ρ' r _ s1 e fun y H2 Hf2 s2 t2 rv2 => q y H2 Hf2 s2 (t1.trans t2) (RpV.back t1 rv2)
  | false =>
    simp only [Bool.false_eq_true, if_false] at e ⊢
    cases e
    exact q x H1 Hf1 s1 t1 rv
theorem snd_or {a b : Expr} {rest : List Expr} {pos : Pos} {c d : E} (h1 : SndE X a (evE φ c)) (h2 : SndE X (.BoolOp .Or (b :: rest) pos) (evE φ d)) : SndE X (.BoolOp .Or (a :: b :: rest) pos) (evE φ (.orE c d)) := by
  obtain ⟨ta, p1, h1⟩ := h1
  obtain ⟨tb, p2, h2⟩ := h2
  refine ⟨_, pe_orT p1 p2, fun B σ H Hf ρ ρ' r Q s e q => ?_⟩
  simp only [evE] at e
  obtain ⟨⟨v, ρ1⟩, e1, e⟩ := bindE e
  obtain ⟨t, e2, e⟩ := bindE e
  refine h1 B σ H Hf ρ ρ1 v _ s e1 fun x H1 Hf1 s1 t1 rv => ⟨t, tru_rpv s1 rv e2, ?_⟩
  cases t with
  | false =>
    simp only [Bool.false_eq_true, if_false] at e ⊢
    exact h2 B σ H1 Hf1 ρ1 ρ' r _ s1 e fun y H2 Hf2 s2 t2 rv2 => q y H2 Hf2 s2 (t1.trans t2) (RpV.back t1 rv2)
  | true =>
    simp only [if_true] at e ⊢
    cases e
    exact q x H1 Hf1 s1 t1 rv
theorem snd_not {a : Expr} {pos : Pos} {c : E} (h1 : SndE X a (evE φ c)) : SndE X (.UnaryOp .Not a pos) (evE φ (.notE c)) := by
  obtain ⟨ta, p1, h1⟩ := h1
  refine ⟨_, pe_notT p1, fun B σ H Hf ρ ρ' r Q s e q => ?_⟩
  simp only [evE] at e
  obtain ⟨⟨v, ρ1⟩, e1, e⟩ := bindE e
  obtain ⟨t, e2, e⟩ := bindE e
  cases e
  exact h1 B σ H Hf ρ _ v _ s e1 fun x H1 Hf1 s1 t1 rv => ⟨t, tru_rpv s1 rv e2, q _ H1 Hf1 s1 t1 (.bl _)⟩
theorem snd_ite {c a b : Expr} {pos : Pos} {cc ca cb : E} (hc : SndT X c (evT φ cc)) (ha : SndE X a (evE φ ca)) (hb : SndE X b (evE φ cb)) : SndE X (.IfExp c a b pos) (evE φ (.ite cc ca cb)) := by
  obtain ⟨tc, p0, h0⟩ := hc
  obtain ⟨ta, p1, h1⟩ := ha
  obtain ⟨tb, p2, h2⟩ := hb
  refine ⟨_, pe_ifExp p0 p1 p2, fun B σ H Hf ρ ρ' r Q s e q => ?_⟩
  simp only [evE] at e
  obtain ⟨⟨v, ρ1⟩, e1, e⟩ := bindE e
  obtain ⟨t, e2, e⟩ := bindE e
  have e3 : evT φ cc ρ = some (t, ρ1) := by
    show (evE φ cc ρ).bind _ = _
    rw [e1, Option.bind_some]
    show (truth v.d).map _ = _
    rw [e2]; rfl
  refine h0 B σ H Hf ρ ρ1 t _ s e3 fun H1 Hf1 s1 t1 => ?_
  cases t with
  | true =>
    simp only [if_true] at e ⊢
    exact h1 B σ H1 Hf1 ρ1 ρ' r _ s1 e fun y H2 Hf2 s2 t2 rv2 => q y H2 Hf2 s2 (t1.trans t2) (RpV.back t1 rv2)
  | false =>
    simp only [Bool.false_eq_true, if_false] at e ⊢
    exact h2 B σ H1 Hf1 ρ1 ρ' r _ s1 e fun y H2 Hf2 s2 t2 rv2 => q y H2 Hf2 s2 (t1.trans t2) (RpV.back t1 rv2)
/-! ### tests -/
theorem evT_inv {c : E} {ρ ρ' : Rho} {t : Bool} (h : evT φ c ρ = some (t, ρ')) : ∃ v, evE φ c ρ = some (v, ρ') ∧ truth v.d = some t := by
  unfold evT at h
  obtain ⟨⟨v, ρ1⟩, e1, e⟩ := bindE h
  rw [Option.map_eq_some_iff] at e
  obtain ⟨t', e2, e3⟩ := e
  cases e3
  exact ⟨v, e1, e2⟩
theorem evT_mk {c : E} {ρ ρ' : Rho} {t : Bool} {v : SV} (h : evE φ c ρ = some (v, ρ')) (e : truth v.d = some t) : evT φ c ρ = some (t, ρ') := by
  unfold evT
  rw [h, Option.bind_some]
  show (truth v.d).map _ = _
  rw [e]; rfl
def plainT : Expr → Bool
  | .UnaryOp .Not _ _ => false
  | .BoolOp _ _ _ => false
  | .IfExp _ _ _ _ => false
  | .Compare _ _ _ _ => false
  | _ => true
theorem isTrue_of {e : Expr} {env : Env} (h : plainT e = true) : ∀ whole, isTrue e env whole = (do let v ← whole; standAt e.pos; holding [v] (truthy v)) := by
  intro whole
  cases e <;> first | rfl | (simp [plainT] at h; done) | (rename_i op _ _; cases op <;> first | rfl | (simp [plainT] at h))
theorem sndT_plain {e : Expr} {c : E} (hp : plainT e = true) (h : SndE X e (evE φ c)) : SndT X e (evT φ c) := by
  obtain ⟨te, p, h⟩ := h
  refine ⟨_, pt_truth p (isTrue_of hp), fun B σ H Hf ρ ρ' t Q s e q => ?_⟩
  obtain ⟨v, e1, e2⟩ := evT_inv e
  exact h B σ H Hf ρ ρ' v _ s e1 fun x H1 Hf1 s1 t1 rv => ⟨t, tru_rpv s1 rv e2, q H1 Hf1 s1 t1⟩
theorem sndT_not {a : Expr} {pos : Pos} {c : E} (h : SndT X a (evT φ c)) : SndT X (.UnaryOp .Not a pos) (evT φ (.notE c)) := by
  obtain ⟨te, p, h⟩ := h
  refine ⟨_, pt_not p, fun B σ H Hf ρ ρ' t Q s e q => ?_⟩
  obtain ⟨v, e1, e2⟩ := evT_inv e
  simp only [evE] at e1
  obtain ⟨⟨v1, ρ1⟩, e3, e1⟩ := bindE e1
  obtain ⟨t1, e4, e1⟩ := bindE e1
  cases e1
  cases e2
  exact h B σ H Hf ρ _ t1 _ s (evT_mk e3 e4) fun H1 Hf1 s1 t1 => q H1 Hf1 s1 t1
def SndW (X : Cx) (e : Expr) (ev : Rho → Option (Bool × Rho)) : Prop :=
  ∃ te, PW X e te ∧ ∀ (B : List V) (σ : Sg) (H Hf : Hp) (ρ ρ' : Rho) (r : Bool) (Q : Bool → Hp → Prop), SRel X.K B σ H Hf ρ → ev ρ = some (r, ρ') →
    (∀ H' Hf', SRel X.K B σ H' Hf' ρ' → Step σ ρ H Hf σ ρ' H' Hf' → Q r H') → te σ H Q
theorem SndW.t {e : Expr} {ev : Rho → Option (Bool × Rho)} (h : SndW X e ev) : SndT X e ev := by
  obtain ⟨te, p, h⟩ := h
  exact ⟨te, p.pt, h⟩
theorem sndW_and1 {a : Expr} {pos : Pos} {ev : Rho → Option (Bool × Rho)} (h : SndT X a ev) : SndW X (.BoolOp .And [a] pos) ev := by
  obtain ⟨te, p, h⟩ := h
  exact ⟨te, pw_and1 p, h⟩
theorem sndW_or1 {a : Expr} {pos : Pos} {ev : Rho → Option (Bool × Rho)} (h : SndT X a ev) : SndW X (.BoolOp .Or [a] pos) ev := by
  obtain ⟨te, p, h⟩ := h
  exact ⟨te, pw_or1 p, h⟩
theorem sndW_and {a b : Expr} {rest : List Expr} {pos : Pos} {c d : E} (h1 : SndT X a (evT φ c)) (h2 : SndW X (.BoolOp .And (b :: rest) pos) (evT φ d)) : SndW X (.BoolOp .And (a :: b :: rest) pos) (evT φ (.andE c d)) := by
  obtain ⟨ta, p1, h1⟩ := h1
  obtain ⟨tb, p2, h2⟩ := h2
  refine ⟨_, pw_and p1 p2, fun B σ H Hf ρ ρ' t Q s e q => ?_⟩
  obtain ⟨v, e1, e2⟩ := evT_inv e
  simp only [evE] at e1
  obtain ⟨⟨v1, ρ1⟩, e3, e1⟩ := bindE e1
  obtain ⟨t1, e4, e1⟩ := bindE e1
  refine h1 B σ H Hf ρ ρ1 t1 _ s (evT_mk e3 e4) fun H1 Hf1 s1 k1 => ?_
  cases t1 with
  | true =>
    simp only [if_true] at e1 ⊢
    exact h2 B σ H1 Hf1 ρ1 ρ' t _ s1 (evT_mk e1 e2) fun H2 Hf2 s2 k2 => q H2 Hf2 s2 (k1.trans k2)
  | false =>
    simp only [Bool.false_eq_true, if_false] at e1 ⊢
    cases e1
    rw [e4] at e2
    cases e2
    exact q H1 Hf1 s1 k1
theorem sndW_or {a b : Expr} {rest : List Expr} {pos : Pos} {c d : E} (h1 : SndT X a (evT φ c)) (h2 : SndW X (.BoolOp .Or (b :: rest) pos) (evT φ d)) : SndW X (.BoolOp .Or (a :: b :: rest) pos) (evT φ (.orE c d)) := by
  obtain ⟨ta, p1, h1⟩ := h1
  obtain ⟨tb, p2, h2⟩ := h2
  refine ⟨_, pw_or p1 p2, fun B σ H Hf ρ ρ' t Q s e q => ?_⟩
  obtain ⟨v, e1, e2⟩ := evT_inv e
  simp only [evE] at e1
  obtain ⟨⟨v1, ρ1⟩, e3, e1⟩ := bindE e1
  obtain ⟨t1, e4, e1⟩ := bindE e1
  refine h1 B σ H Hf ρ ρ1 t1 _ s (evT_mk e3 e4) fun H1 Hf1 s1 k1 => ?_
  cases t1 with
  | false =>
    simp only [Bool.false_eq_true, if_false] at e1 ⊢
    exact h2 B σ H1 Hf1 ρ1 ρ' t _ s1 (evT_mk e1 e2) fun H2 Hf2 s2 k2 => q H2 Hf2 s2 (k1.trans k2)
  | true =>
    simp only [if_true] at e1 ⊢
    cases e1
    rw [e4] at e2
    cases e2
    exact q H1 Hf1 s1 k1
/-! ### comparisons as tests -/
def PrimOkT (X : Cx) (p : Pr) (e : Expr) (es : List Expr) : Prop := ∀ ts, PEs X es ts → ∃ r, PT X e (fun σ H Q => tL ts σ H fun vs H1 => r vs H1 fun x H' => ∃ k, x = .bl k ∧ Q k H') ∧ PrimR X.K p r
def isBoolP (p : Pr) : Prop := ∀ ds sv, prim p ds = some sv → ∃ b, sv = .dat (.bool b)
theorem sndT_prim {e : Expr} {es : List Expr} {cs : List E} {p : Pr} (h : SndO X es (evO φ cs)) (hp : PrimOkT X p e es) (hb : isBoolP p) : SndT X e (evT φ (.prim p cs)) := by
  obtain ⟨ts, p1, h1⟩ := h
  obtain ⟨r, pe, pr⟩ := hp ts p1
  refine ⟨_, pe, fun B σ H Hf ρ ρ' t Q s e q => ?_⟩
  obtain ⟨v, e1, e2⟩ := evT_inv e
  simp only [evE] at e1
  obtain ⟨⟨os, ρ1⟩, e3, e1⟩ := bindE e1
  obtain ⟨ds, e4, e1⟩ := bindE e1
  rw [Option.map_eq_some_iff] at e1
  obtain ⟨v0, e5, e6⟩ := e1
  cases e6
  obtain ⟨b, rfl⟩ := hb ds v e5
  cases e2
  refine h1 B σ H Hf ρ _ os _ s e3 fun vs H1 Hf1 s1 t1 rv => ?_
  refine pr H1 Hf1 vs ds _ _ s1.sub (rv.rd s1 e4) e5 fun v H2 P => ?_
  obtain ⟨Hf2, s2, t2, r2⟩ := ppost s1 P
  have r3 : Rp X.K Hf2 v (.bool t) := r2
  cases r3
  exact ⟨t, rfl, q H2 Hf2 s2 (t1.trans t2)⟩
theorem primT_cmp {op : CmpOp} {p : Pr} {r : R2} {a b : Expr} {pos : Pos} (ho : OpR X (compareOp op) r) (hr : PrimR X.K p (R2l r)) (hm : behindInMarks op b = false) : PrimOkT X p (.Compare a [op] [b] pos) [a, b] := by
  intro ts h
  cases h with | cons ha h => cases h with | cons hb h => cases h; exact ⟨R2l r, pt_cmpR ho ha hb hm, hr⟩
end
end LI

set_option Elab.async false
set_option linter.all false
set_option autoImplicit false
set_option maxRecDepth 100000
set_option maxHeartbeats 4000000
namespace LI
open PySem PySem.Spec PyProof.Rows L2
theorem set_none {σ : Sg} {ρ : Rho} {i : Nat} {a : Addr} (h : Owns σ (ρ.set i none) a) : Owns σ ρ a := by
  obtain ⟨j, t, d, h1, h2⟩ := h
  have n : i ≠ j := fun z => by
    subst z
    by_cases hl : i < ρ.length
    · rw [List.getElem?_set_self hl] at h1; cases h1
    · rw [List.getElem?_eq_none (by simpa using hl)] at h1; cases h1
  rw [List.getElem?_set_ne n] at h1
  exact ⟨j, t, d, h1, h2⟩
theorem get_set_none {ρ : Rho} {i j : Nat} {v : SV} (h : (ρ.set i none)[j]? = some (some v)) : i ≠ j ∧ ρ[j]? = some (some v) := by
  have n : i ≠ j := fun z => by
    subst z
    by_cases hl : i < ρ.length
    · rw [List.getElem?_set_self hl] at h; cases h
    · rw [List.getElem?_eq_none (by simpa using hl)] at h; cases h
  rw [List.getElem?_set_ne n] at h
  exact ⟨n, h⟩
theorem SRel.setNone {K : Fg} {B : List V} {σ : Sg} {H Hf : Hp} {ρ : Rho} (s : SRel K B σ H Hf ρ) (i : Nat) : SRel K B σ H Hf (ρ.set i none) := by
  refine ⟨s.sub, by rw [List.length_set]; exact s.len, fun j d e => s.dat j d (get_set_none e).2, fun j t d e => s.own j t d (get_set_none e).2, fun j k t u d e a h1 h2 => s.dis j k t u d e a (get_set_none h1).2 (get_set_none h2).2⟩
theorem Step.setNone {σ : Sg} {ρ : Rho} {H Hf : Hp} (i : Nat) : Step σ ρ H Hf σ (ρ.set i none) H Hf := ⟨Same.refl _, fun _ _ h _ => h, fun _ h => .inl h, fun _ h => .inl (set_none h)⟩
structure ARel (K : Fg) (B : List V) (σ : Sg) (ρ0 : Rho) (H0 : Hp) (ρ : Rho) (H Hf : Hp) (vs : List V) (as : List SV) (bk : Back) : Prop where
  len : vs.length = as.length
  dat : ∀ (j : Nat) (d : PyData), as[j]? = some (.dat d) → ∃ v, vs[j]? = some v ∧ Rp K Hf v d
  own : ∀ (j : Nat) (t : Option Nat) (d : PyData), as[j]? = some (.own t d) → ∃ a o, vs[j]? = some (.ref a) ∧ H a = some o ∧ Hf a = none ∧ ObR K Hf o d ∧ ¬ Owns σ ρ a ∧ (H0 a = none ∨ Owns σ ρ0 a)
  dis : ∀ (i j : Nat) (t u : Option Nat) (d e : PyData) (a : Addr), as[i]? = some (.own t d) → as[j]? = some (.own u e) → vs[i]? = some (.ref a) → vs[j]? = some (.ref a) → i = j
  lent : ∀ (j i : Nat) (t : Option Nat), bk = some (j, i, t) → i < ρ.length ∧ ∃ (a : Addr) (d : PyData) (u : Option Nat), as[j]? = some (.own u d) ∧ vs[j]? = some (.ref a) ∧ σ[i]? = some (some (.ref a)) ∧ (∀ k, t = some k → i = k ∧ B[k]? = some (.ref a))
theorem ARel.nil {K : Fg} {B : List V} {σ : Sg} {ρ : Rho} {H Hf : Hp} : ARel K B σ ρ H ρ H Hf [] [] none := ⟨rfl, fun j d h => by simp at h, fun j t d h => by simp at h, fun i j t u d e a h => by simp at h, fun j i t h => nomatch h⟩
theorem ARel.cons {K : Fg} {B : List V} {σ : Sg} {ρ0 ρ1 ρ2 : Rho} {H0 H1 H2 Hf0 Hf1 Hf2 : Hp} {v : V} {a0 : SV} {vs : List V} {as : List SV} {bk bk' : Back} (t1 : Step σ ρ0 H0 Hf0 σ ρ1 H1 Hf1) (t2 : Step σ ρ1 H1 Hf1 σ ρ2 H2 Hf2)
    (h : RpV K σ ρ0 H0 σ ρ1 H1 Hf1 v a0) (t : ARel K B σ ρ1 H1 ρ2 H2 Hf2 vs as bk)
    (hb : ∀ (j i : Nat) (t : Option Nat), bk' = some (j, i, t) → (∃ j', j = j' + 1 ∧ bk = some (j', i, t)) ∨ (j = 0 ∧ i < ρ2.length ∧ ∃ (a : Addr) (d : PyData) (u : Option Nat), a0 = .own u d ∧ v = .ref a ∧ σ[i]? = some (some (.ref a)) ∧ (∀ k, t = some k → i = k ∧ B[k]? = some (.ref a)))) :
    ARel K B σ ρ0 H0 ρ2 H2 Hf2 (v :: vs) (a0 :: as) bk' := by
  have back : ∀ a, H1 a = none ∨ Owns σ ρ1 a → H0 a = none ∨ Owns σ ρ0 a := fun a z => by
    rcases z with z | z
    · cases e : H0 a with
      | none => exact .inl rfl
      | some w =>
        by_cases q : Owns σ ρ0 a
        · exact .inr q
        · rw [t1.keep a w e q] at z; cases z
    · rcases t1.own a z with y | y
      · exact .inr y
      · exact .inl y
  have head : ∀ u d, a0 = .own u d → ∃ a o, v = .ref a ∧ H2 a = some o ∧ Hf2 a = none ∧ ObR K Hf2 o d ∧ ¬ Owns σ ρ2 a ∧ (H0 a = none ∨ Owns σ ρ0 a) ∧ H1 a = some o ∧ ¬ Owns σ ρ1 a := fun u d e => by
    subst e
    obtain ⟨a, o, h1, h2, h3, h4, h5, h6⟩ := h
    refine ⟨a, o, h1, t2.keep a o h2 h5, ?_, h4.mono t2.fz, fun z => ?_, h6, h2, h5⟩
    · cases e : Hf2 a with
      | none => rfl
      | some w =>
        rcases t2.new a (by rw [e]; exact fun z => nomatch z) with z | z | z
        · exact absurd h3 z
        · rw [h2] at z; cases z
        · exact absurd z h5
    · rcases t2.own a z with y | y
      · exact h5 y
      · rw [h2] at y; cases y
  refine ⟨by rw [List.length_cons, List.length_cons, t.len], fun j d e => ?_, fun j u d e => ?_, fun i j u w d e a h1 h2 h3 h4 => ?_, fun j i u e => ?_⟩
  · cases j with
    | zero =>
      rw [List.getElem?_cons_zero] at e; cases e
      exact ⟨v, rfl, Rp.mono t2.fz h⟩
    | succ j => rw [List.getElem?_cons_succ] at e ⊢; exact t.dat j d e
  · cases j with
    | zero =>
      rw [List.getElem?_cons_zero] at e; cases e
      obtain ⟨a, o, k1, k2, k3, k4, k5, k6, _⟩ := head u d rfl
      exact ⟨a, o, by rw [k1]; rfl, k2, k3, k4, k5, k6⟩
    | succ j =>
      rw [List.getElem?_cons_succ] at e
      obtain ⟨a, o, k1, k2, k3, k4, k5, k6⟩ := t.own j u d e
      exact ⟨a, o, by rw [List.getElem?_cons_succ]; exact k1, k2, k3, k4, k5, back a k6⟩
  · have cross : ∀ (u' : Option Nat) (d' : PyData) (w' : Option Nat) (e' : PyData) (j' : Nat), a0 = .own u' d' → as[j']? = some (.own w' e') → v = .ref a → vs[j']? = some (.ref a) → False := fun u' d' w' e' j' q1 q2 q3 q4 => by
      obtain ⟨b, o, k1, _, _, _, _, _, k7, k8⟩ := head u' d' q1
      rw [q3] at k1; cases k1
      obtain ⟨b, o', m1, _, _, _, _, m6⟩ := t.own j' w' e' q2
      rw [q4] at m1; cases m1
      rcases m6 with z | z
      · rw [k7] at z; cases z
      · exact k8 z
    cases i with
    | zero =>
      cases j with
      | zero => rfl
      | succ j =>
        rw [List.getElem?_cons_zero] at h1 h3; rw [List.getElem?_cons_succ] at h2 h4
        cases h1; cases h3
        exact (cross _ _ _ _ j rfl h2 rfl h4).elim
    | succ i =>
      cases j with
      | zero =>
        rw [List.getElem?_cons_succ] at h1 h3; rw [List.getElem?_cons_zero] at h2 h4
        cases h2; cases h4
        exact (cross _ _ _ _ i rfl h1 rfl h3).elim
      | succ j =>
        rw [List.getElem?_cons_succ] at h1 h2 h3 h4
        rw [t.dis i j u w d e a h1 h2 h3 h4]
  · rcases hb j i u e with ⟨j', rfl, q⟩ | ⟨rfl, q1, a, d, u', q2, q3, q4, q5⟩
    · obtain ⟨k1, a, d, u', k2, k3, k4, k5⟩ := t.lent j' i u q
      exact ⟨k1, a, d, u', by rw [List.getElem?_cons_succ]; exact k2, by rw [List.getElem?_cons_succ]; exact k3, k4, k5⟩
    · subst q2 q3
      exact ⟨q1, a, d, u', rfl, rfl, q4, q5⟩
section
variable {X : Cx} {φ : Fn}
def SndA (X : Cx) (es : List Expr) (ev : Rho → Option (List SV × Back × Rho)) : Prop :=
  ∃ ts, PEs X es ts ∧ ∀ (B : List V) (σ : Sg) (H Hf : Hp) (ρ ρ' : Rho) (as : List SV) (bk : Back) (Q : List V → Hp → Prop), SRel X.K B σ H Hf ρ → ev ρ = some (as, bk, ρ') →
    (∀ vs H' Hf', SRel X.K B σ H' Hf' ρ' → Step σ ρ H Hf σ ρ' H' Hf' → ARel X.K B σ ρ H ρ' H' Hf' vs as bk → Q vs H') → tL ts σ H Q
theorem sndA_nil {mu : List Bool} : SndA X [] (evA φ [] mu) := by
  refine ⟨_, .nil, fun B σ H Hf ρ ρ' as bk Q s e q => ?_⟩
  simp only [evA] at e
  cases e
  exact q [] H Hf s Step.refl .nil
theorem upB_cases {bk : Back} {j i : Nat} {t : Option Nat} (h : upB bk = some (j, i, t)) : ∃ j', j = j' + 1 ∧ bk = some (j', i, t) := by
  cases bk with
  | none => cases h
  | some q =>
    obtain ⟨j', i', t'⟩ := q
    cases h
    exact ⟨j', rfl, rfl⟩
theorem sndA_var {i : Nat} {x : Str} {pos : Pos} {es : List Expr} {cs : List E} {mu : List Bool} (hm : mu.headD false = true) (hN : X.N[i]? = some x) (hv : Vis X.env.scope x) (hd : (x == ("__debug__" : Str)) = false) (hcd : (x == ("__classdict__" : Str)) = false)
    (t : SndA X es (evA φ cs mu.tail)) : SndA X (.Name x pos :: es) (evA φ (.var i :: cs) mu) := by
  obtain ⟨ts, p2, h2⟩ := t
  refine ⟨_, .cons (pe_var hN hv hd hcd) p2, fun B σ H Hf ρ ρ' as bk Q s e q => ?_⟩
  simp only [evA, bArg, hm] at e
  split at e
  · rename_i u d hw
    obtain ⟨⟨as2, bk2, ρ2⟩, e1, e⟩ := bindE e
    split at e
    · rename_i hn
      split at e
      · rename_i u2 d2 hw2
        cases e
        obtain ⟨a, o, k1, k2, k3, k4, k5⟩ := s.own i u d hw
        refine ⟨.ref a, k1, h2 B σ H Hf ρ ρ2 as2 bk2 _ s e1 fun vs H2 Hf2 s2 t2 ar => ?_⟩
        obtain ⟨a', o', m1, m2, m3, m4, m5⟩ := s2.own i u2 d2 hw2
        rw [k1] at m1; cases m1
        have no : ¬ Owns σ (ρ2.set i none) a := by
          rintro ⟨j, t', d', q1, q2⟩
          obtain ⟨n, q1⟩ := get_set_none q1
          exact n (s2.dis i j u2 t' d2 d' a hw2 q1 k1 q2)
        have on : Owns σ ρ2 a := ⟨i, u2, d2, hw2, k1⟩
        have hl : i < (ρ2.set i none).length := by rw [List.length_set]; exact (List.getElem?_eq_some_iff.mp hw2).1
        refine q _ H2 Hf2 (s2.setNone i) (t2.trans (Step.setNone i)) ⟨by rw [List.length_cons, List.length_cons, ar.len], fun j d e => ?_, fun j t d e => ?_, fun j1 j2 t u d e a2 h1 h2 h3 h4 => ?_, fun j i' t' e => ?_⟩
        · cases j with
          | zero => rw [List.getElem?_cons_zero] at e; cases e
          | succ j => rw [List.getElem?_cons_succ] at e ⊢; exact ar.dat j d e
        · cases j with
          | zero =>
            rw [List.getElem?_cons_zero] at e; cases e
            exact ⟨a, o', rfl, m2, m3, m4, no, .inr ⟨i, _, _, hw, k1⟩⟩
          | succ j =>
            rw [List.getElem?_cons_succ] at e
            obtain ⟨b, o2, n1, n2, n3, n4, n5, n6⟩ := ar.own j t d e
            exact ⟨b, o2, by rw [List.getElem?_cons_succ]; exact n1, n2, n3, n4, fun z => n5 (set_none z), n6⟩
        · have cross : ∀ (j' : Nat) (w' : Option Nat) (e' : PyData), as2[j']? = some (.own w' e') → vs[j']? = some (.ref a) → False := fun j' w' e' q1 q2 => by
            obtain ⟨b, o2, n1, _, _, _, n5, _⟩ := ar.own j' w' e' q1
            rw [q2] at n1; cases n1
            exact n5 on
          cases j1 with
          | zero =>
            cases j2 with
            | zero => rfl
            | succ j2 =>
              rw [List.getElem?_cons_zero] at h3; rw [List.getElem?_cons_succ] at h2 h4
              cases h3
              exact (cross j2 _ _ h2 h4).elim
          | succ j1 =>
            cases j2 with
            | zero =>
              rw [List.getElem?_cons_succ] at h1 h3; rw [List.getElem?_cons_zero] at h4
              cases h4
              exact (cross j1 _ _ h1 h3).elim
            | succ j2 =>
              rw [List.getElem?_cons_succ] at h1 h2 h3 h4
              rw [ar.dis j1 j2 t u d e a2 h1 h2 h3 h4]
        · cases e
          exact ⟨hl, a, d2, none, rfl, rfl, k1, m5⟩
      · cases e
    · cases e
  · rename_i d hw
    rw [Option.map_eq_some_iff] at e
    obtain ⟨⟨as2, bk2, ρ2⟩, e1, e⟩ := e
    cases e
    obtain ⟨v, k1, k2⟩ := s.dat i d hw
    refine ⟨v, k1, h2 B σ H Hf ρ _ as2 bk2 _ s e1 fun vs H2 Hf2 s2 t2 ar => ?_⟩
    exact q _ H2 Hf2 s2 t2 (ARel.cons Step.refl t2 (a0 := .dat d) k2 ar fun j i' t' e => .inl (upB_cases e))
  · cases e
theorem sndA_cons {e : Expr} {es : List Expr} {c : E} {cs : List E} {mu : List Bool} (hb : bArg (mu.headD false) c = none) (h : SndE X e (evE φ c)) (t : SndA X es (evA φ cs mu.tail)) : SndA X (e :: es) (evA φ (c :: cs) mu) := by
  obtain ⟨te, p1, h1⟩ := h
  obtain ⟨ts, p2, h2⟩ := t
  refine ⟨_, .cons p1 p2, fun B σ H Hf ρ ρ' as bk Q s e q => ?_⟩
  simp only [evA, hb] at e
  obtain ⟨⟨r, ρ1⟩, e1, e⟩ := bindE e
  rw [Option.map_eq_some_iff] at e
  obtain ⟨⟨as2, bk2, ρ2⟩, e2, e⟩ := e
  cases e
  refine h1 B σ H Hf ρ ρ1 r _ s e1 fun v H1 Hf1 s1 t1 rv => ?_
  by_cases hm : mu.headD false = true
  · refine h2 B σ H1 Hf1 ρ1 _ as2 bk2 _ s1 e2 fun vs H2 Hf2 s2 t2 ar => ?_
    rw [if_pos hm] at q
    exact q _ H2 Hf2 s2 (t1.trans t2) (ARel.cons t1 t2 rv ar fun j i' t' e => .inl (upB_cases e))
  · obtain ⟨Hf1', s1', t1', rv'⟩ := frz s1 t1 rv
    refine h2 B σ H1 Hf1' ρ1 _ as2 bk2 _ s1' e2 fun vs H2 Hf2 s2 t2 ar => ?_
    rw [if_neg hm] at q
    exact q _ H2 Hf2 s2 (t1'.trans t2) (ARel.cons t1' t2 (a0 := .dat r.d) rv' ar fun j i' t' e => .inl (upB_cases e))
end
end LI

set_option Elab.async false
set_option linter.all false
set_option autoImplicit false
set_option maxRecDepth 100000
set_option maxHeartbeats 4000000
namespace LI
open PySem PySem.Spec PyProof.Rows L2
theorem tagA_get : ∀ (as : List SV) (j i : Nat), (tagA j as)[i]? = (as[i]?).map fun v => match v with
    | .dat d => some (.dat d)
    | .own _ d => some (.own (some (j + i)) d)
  | [], _, _ => by simp [tagA]
  | .dat d :: r, j, 0 => by simp [tagA]
  | .own t d :: r, j, 0 => by simp [tagA]
  | .dat d :: r, j, i + 1 => by
    rw [tagA, List.getElem?_cons_succ, List.getElem?_cons_succ, tagA_get r (j + 1) i]
    have e : j + 1 + i = j + (i + 1) := by omega
    rw [e]
  | .own t d :: r, j, i + 1 => by
    rw [tagA, List.getElem?_cons_succ, List.getElem?_cons_succ, tagA_get r (j + 1) i]
    have e : j + 1 + i = j + (i + 1) := by omega
    rw [e]
theorem tagA_dat {as : List SV} {i : Nat} {d : PyData} (h : (tagA 0 as)[i]? = some (some (.dat d))) : as[i]? = some (.dat d) := by
  rw [tagA_get] at h
  cases e : as[i]? with
  | none => rw [e] at h; cases h
  | some v =>
    rw [e] at h
    cases v with
    | dat d' => simp at h; rw [h]
    | own t d' => simp at h
theorem tagA_own {as : List SV} {i : Nat} {t : Option Nat} {d : PyData} (h : (tagA 0 as)[i]? = some (some (.own t d))) : t = some i ∧ ∃ u, as[i]? = some (.own u d) := by
  rw [tagA_get] at h
  cases e : as[i]? with
  | none => rw [e] at h; cases h
  | some v =>
    rw [e] at h
    cases v with
    | dat d' => simp at h
    | own u d' => simp at h; exact ⟨h.1.symm, u, by rw [h.2]⟩
theorem tagA_len : ∀ (as : List SV) (j : Nat), (tagA j as).length = as.length
  | [], _ => rfl
  | .dat d :: r, j => by rw [tagA, List.length_cons, tagA_len r, List.length_cons]
  | .own t d :: r, j => by rw [tagA, List.length_cons, tagA_len r, List.length_cons]
theorem tagA_mk {as : List SV} {i : Nat} {u : Option Nat} {d : PyData} (h : as[i]? = some (.own u d)) : (tagA 0 as)[i]? = some (some (.own (some i) d)) := by
  rw [tagA_get, h]; simp
theorem mapsome {vs : List V} {i : Nat} {v : V} : (vs.map some)[i]? = some (some v) ↔ vs[i]? = some v := by
  rw [List.getElem?_map]
  cases vs[i]? <;> simp
def ArgOwn (vs : List V) (as : List SV) (a : Addr) : Prop := ∃ (j : Nat) (t : Option Nat) (d : PyData), as[j]? = some (.own t d) ∧ vs[j]? = some (.ref a)
theorem owns_arg {vs : List V} {as : List SV} {a : Addr} : Owns (vs.map some) (tagA 0 as) a ↔ ArgOwn vs as a := by
  constructor
  · rintro ⟨i, t, d, h1, h2⟩
    obtain ⟨_, u, h3⟩ := tagA_own h1
    exact ⟨i, u, d, h3, mapsome.mp h2⟩
  · rintro ⟨i, u, d, h1, h2⟩
    exact ⟨i, some i, d, tagA_mk h1, mapsome.mpr h2⟩
theorem ARel.srel {K : Fg} {B : List V} {σ : Sg} {ρ0 ρ : Rho} {H0 H Hf : Hp} {vs : List V} {as : List SV} {bk : Back} (h : ARel K B σ ρ0 H0 ρ H Hf vs as bk) (s : Same Hf H) : SRel K vs (vs.map some) H Hf (tagA 0 as) := by
  refine ⟨s, by rw [tagA_len, List.length_map]; exact h.len.symm, fun i d e => ?_, fun i t d e => ?_, fun i j t u d e a h1 h2 h3 h4 => ?_⟩
  · obtain ⟨v, k1, k2⟩ := h.dat i d (tagA_dat e)
    exact ⟨v, mapsome.mpr k1, k2⟩
  · obtain ⟨rfl, u, e'⟩ := tagA_own e
    obtain ⟨a, o, k1, k2, k3, k4, _⟩ := h.own i u d e'
    exact ⟨a, o, mapsome.mpr k1, k2, k3, k4, fun j z => by cases z; exact ⟨rfl, k1⟩⟩
  · obtain ⟨_, u1, e1⟩ := tagA_own h1
    obtain ⟨_, u2, e2⟩ := tagA_own h2
    exact h.dis i j u1 u2 d e a e1 e2 (mapsome.mp h3) (mapsome.mp h4)
/-- a slot becomes an owned one -/
theorem SRel.setOwn {K : Fg} {B : List V} {σ : Sg} {H Hf : Hp} {ρ : Rho} {i : Nat} {a : Addr} {o : HO} {t : Option Nat} {d : PyData} (s : SRel K B σ H Hf ρ) (hi : i < ρ.length) (h1 : σ[i]? = some (some (.ref a))) (h2 : H a = some o) (h3 : Hf a = none) (h4 : ObR K Hf o d)
    (h5 : ∀ k, t = some k → i = k ∧ B[k]? = some (.ref a)) (no : ¬ Owns σ ρ a) : SRel K B σ H Hf (ρ.set i (some (.own t d))) := by
  have sp : ∀ j (v : SV), (ρ.set i (some (.own t d)))[j]? = some (some v) → (j = i ∧ v = .own t d) ∨ (i ≠ j ∧ ρ[j]? = some (some v)) := fun j v e => by
    by_cases z : i = j
    · subst z; rw [List.getElem?_set_self hi] at e; cases e; exact .inl ⟨rfl, rfl⟩
    · rw [List.getElem?_set_ne z] at e; exact .inr ⟨z, e⟩
  refine ⟨s.sub, by rw [List.length_set]; exact s.len, fun j d' e => ?_, fun j t' d' e => ?_, fun j k t' u d' e' b k1 k2 k3 k4 => ?_⟩
  · rcases sp j _ e with ⟨_, z⟩ | ⟨_, z⟩
    · cases z
    · exact s.dat j d' z
  · rcases sp j _ e with ⟨rfl, z⟩ | ⟨_, z⟩
    · cases z; exact ⟨a, o, h1, h2, h3, h4, h5⟩
    · exact s.own j t' d' z
  · rcases sp j _ k1 with ⟨rfl, z⟩ | ⟨n1, z⟩
    · rcases sp k _ k2 with ⟨rfl, _⟩ | ⟨n2, y⟩
      · rfl
      · rw [h1] at k3; cases k3
        exact (no ⟨k, u, e', y, k4⟩).elim
    · rcases sp k _ k2 with ⟨rfl, _⟩ | ⟨n2, y⟩
      · rw [h1] at k4; cases k4
        exact (no ⟨j, t', d', z, k3⟩).elim
      · exact s.dis j k t' u d' e' b z y k3 k4
theorem owns_set {σ : Sg} {ρ : Rho} {i : Nat} {a b : Addr} {t : Option Nat} {d : PyData} (h1 : σ[i]? = some (some (.ref a))) (h : Owns σ (ρ.set i (some (.own t d))) b) : b = a ∨ Owns σ ρ b := by
  obtain ⟨j, u, e, k1, k2⟩ := h
  by_cases z : i = j
  · subst z
    rw [h1] at k2; cases k2; exact .inl rfl
  · rw [List.getElem?_set_ne z] at k1
    exact .inr ⟨j, u, e, k1, k2⟩
theorem call_back {K : Fg} {B : List V} {σ σ' : Sg} {ρ0 ρ1 outs : Rho} {H0 Hf0 H1 Hf1 H2 Hf2 : Hp} {vs : List V} {as : List SV} {bk : Back} {v : V} {r : SV} (s : SRel K B σ H1 Hf1 ρ1) (t : Step σ ρ0 H0 Hf0 σ ρ1 H1 Hf1) (A : ARel K B σ ρ0 H0 ρ1 H1 Hf1 vs as bk)
    (sc : SRel K vs σ' H2 Hf2 outs) (tc : Step (vs.map some) (tagA 0 as) H1 Hf1 σ' outs H2 Hf2) (rc : RpV K (vs.map some) (tagA 0 as) H1 σ' outs H2 Hf2 v r) :
    SRel K B σ H2 Hf2 (giveB outs bk ρ1) ∧ Step σ ρ0 H0 Hf0 σ (giveB outs bk ρ1) H2 Hf2 ∧ RpV K σ ρ0 H0 σ (giveB outs bk ρ1) H2 Hf2 v r := by
  have ao : ∀ a, ArgOwn vs as a → ¬ Owns σ ρ1 a ∧ (H0 a = none ∨ Owns σ ρ0 a) ∧ H1 a ≠ none := fun a ⟨j, u, d, q1, q2⟩ => by
    obtain ⟨b, o, k1, k2, _, _, k5, k6⟩ := A.own j u d q1
    rw [q2] at k1; cases k1
    exact ⟨k5, k6, by rw [k2]; exact fun z => nomatch z⟩
  have kp : ∀ b o, H1 b = some o → ¬ ArgOwn vs as b → H2 b = some o := fun b o h n => tc.keep b o h fun z => n (owns_arg.mp z)
  have nw : ∀ b, Hf2 b ≠ none → Hf1 b ≠ none ∨ H1 b = none ∨ ArgOwn vs as b := fun b h => (tc.new b h).elim .inl fun z => z.elim (fun y => .inr (.inl y)) fun y => .inr (.inr (owns_arg.mp y))
  have h1n : ∀ b, H1 b = none → H0 b = none ∨ Owns σ ρ0 b := fun b z => by
    cases e : H0 b with
    | none => exact .inl rfl
    | some w =>
      by_cases q : Owns σ ρ0 b
      · exact .inr q
      · rw [t.keep b w e q] at z; cases z
  have s1 : SRel K B σ H2 Hf2 ρ1 := by
    refine ⟨sc.sub, s.len, fun i d e => ?_, fun i u d e => ?_, s.dis⟩
    · obtain ⟨w, k1, k2⟩ := s.dat i d e
      exact ⟨w, k1, k2.mono tc.fz⟩
    · obtain ⟨b, o, k1, k2, k3, k4, k5⟩ := s.own i u d e
      have na : ¬ ArgOwn vs as b := fun z => (ao b z).1 ⟨i, u, d, e, k1⟩
      refine ⟨b, o, k1, kp b o k2 na, ?_, k4.mono tc.fz, k5⟩
      cases q : Hf2 b with
      | none => rfl
      | some w =>
        rcases nw b (by rw [q]; exact fun z => nomatch z) with z | z | z
        · exact absurd k3 z
        · rw [k2] at z; cases z
        · exact absurd z na
  -- what is given back
  have gb : SRel K B σ H2 Hf2 (giveB outs bk ρ1) ∧ ∀ b, Owns σ (giveB outs bk ρ1) b → Owns σ ρ1 b ∨ (ArgOwn vs as b ∧ Owns σ' outs b) := by
    unfold giveB
    split
    · exact ⟨s1, fun b z => .inl z⟩
    · rename_i j i t0
      split
      · rename_i j' d e
        split
        · rename_i ej
          subst ej
          obtain ⟨hl, a, d0, u, q1, q2, q3, q4⟩ := A.lent j' i t0 rfl
          obtain ⟨a', o, m1, m2, m3, m4, m5⟩ := sc.own j' (some j') d e
          have ea : a' = a := by
            have := (m5 j' rfl).2
            rw [q2] at this; cases this; rfl
          subst ea
          have ha : ArgOwn vs as a' := ⟨j', u, d0, q1, q2⟩
          refine ⟨s1.setOwn hl q3 m2 m3 m4 q4 (ao a' ha).1, fun b z => ?_⟩
          rcases owns_set q3 z with rfl | z
          · exact .inr ⟨ha, j', some j', d, e, m1⟩
          · exact .inl z
        · exact ⟨s1, fun b z => .inl z⟩
      · exact ⟨s1, fun b z => .inl z⟩
  refine ⟨gb.1, ⟨t.fz.trans tc.fz, fun b o h n => ?_, fun b h => ?_, fun b h => ?_⟩, ?_⟩
  · refine kp b o (t.keep b o h n) fun z => ?_
    rcases (ao b z).2.1 with y | y
    · rw [h] at y; cases y
    · exact n y
  · rcases nw b h with z | z | z
    · exact t.new b z
    · exact .inr (h1n b z)
    · exact .inr (ao b z).2.1
  · rcases gb.2 b h with z | z
    · exact t.own b z
    · exact (ao b z.1).2.1.elim .inr .inl
  · cases r with
    | dat d => exact rc
    | own u d =>
      obtain ⟨b, o, k1, k2, k3, k4, k5, k6⟩ := rc
      have k6 : H1 b = none ∨ ArgOwn vs as b := k6.elim .inl fun z => .inr (owns_arg.mp z)
      refine ⟨b, o, k1, k2, k3, k4, fun z => ?_, k6.elim (h1n b) fun z => (ao b z).2.1⟩
      rcases gb.2 b z with y | y
      · rcases k6 with w | w
        · obtain ⟨i, u', d', m1, m2⟩ := y
          obtain ⟨b', o', n1, n2, _⟩ := s.own i u' d' m1
          rw [m2] at n1; cases n1
          rw [w] at n2; cases n2
        · exact (ao b w).1 y
      · exact k5 y.2
/-! ### the promise of a def -/
def spF (K : Fg) (φ : Fn) (x : Str) : Sp := fun vs H Q _ => ∃ (as : List SV) (Hf : Hp) (r : SV) (outs : Rho), SRel K vs (vs.map some) H Hf (tagA 0 as) ∧ vs.length = as.length ∧ φ x as = some (r, outs) ∧
  ∀ v H' Hf' σ', SRel K vs σ' H' Hf' outs → Step (vs.map some) (tagA 0 as) H Hf σ' outs H' Hf' → RpV K (vs.map some) (tagA 0 as) H σ' outs H' Hf' v r → Q v H'
/-- the def x stands as φ says -/
structure FOk (P : Program) (w : World) (K : Fg) (mg : Str → Option Value) (base : Heap) (n : Nat) (φ : Fn) (x : Str) (f : Addr) (fd : FuncData) (ps : List Str) : Prop where
  at_ : mg x = some (.ref f)
  kp : PySem.W.keepIn K (.ref f) = true
  bd : Binds K fd ps []
  ok : FnOk P w K mg base CX0 n f fd ps (spF K φ x)
section
variable {X : Cx} {φ : Fn}
theorem snd_call {x : Str} {f : Addr} {fd : FuncData} {ps : List Str} {k : Nat} {e : Expr} {es : List Expr} {cs : List E} {mu : List Bool} {p pos : Pos} (F : FOk X.prog X.w X.K X.mg X.base k φ x f fd ps) (hr : Room k X.A) (hg : Gl X x) (hd : (x == ("__debug__" : Str)) = false)
    (hs : (e :: es).all noStar = true) (h : SndA X (e :: es) (evA φ cs mu)) : SndE X (.Call (.Name x p) (e :: es) [] pos) (evE φ (.call x [] mu cs)) := by
  obtain ⟨ts, p1, h1⟩ := h
  have hs' : noStar e = true ∧ es.all noStar = true := by simpa using hs
  refine ⟨_, pe_call F.ok hr hg F.at_ F.kp F.bd .nil pass0 (p1.pa hs) hd (starEach_no hs'.1) (any_no hs'.2), fun B σ H Hf ρ ρ' r Q s e q => ?_⟩
  simp only [evE, List.isEmpty_nil, Bool.true_or, if_true] at e
  obtain ⟨⟨as, bk, ρ1⟩, e1, e⟩ := bindE e
  obtain ⟨as', e2, e⟩ := bindE e
  cases e2
  rw [Option.map_eq_some_iff] at e
  obtain ⟨⟨r', outs⟩, e3, e⟩ := e
  cases e
  refine h1 B σ H Hf ρ ρ1 as bk _ s e1 fun vs H1 Hf1 s1 t1 ar => ?_
  rw [List.append_nil]
  refine ⟨as, Hf1, _, outs, ar.srel s1.sub, ar.len, e3, fun v H2 Hf2 σ' sc tc rc => ?_⟩
  obtain ⟨a, b, c⟩ := call_back s1 t1 ar sc tc rc
  exact q v H2 Hf2 a b c
theorem snd_call0 {x : Str} {f : Addr} {fd : FuncData} {ps : List Str} {k : Nat} {mu : List Bool} {p pos : Pos} (F : FOk X.prog X.w X.K X.mg X.base k φ x f fd ps) (hr : Room k X.A) (hg : Gl X x) (hd : (x == ("__debug__" : Str)) = false) :
    SndE X (.Call (.Name x p) [] [] pos) (evE φ (.call x [] mu [])) := by
  refine ⟨_, pe_call0 F.ok hr hg F.at_ F.kp F.bd .nil pass0 hd, fun B σ H Hf ρ ρ' r Q s e q => ?_⟩
  simp only [evE, evA, Option.bind_some, List.isEmpty_nil, Bool.true_or, if_true, perm] at e
  rw [Option.map_eq_some_iff] at e
  obtain ⟨⟨r', outs⟩, e3, e⟩ := e
  cases e
  have ar : ARel X.K B σ ρ H ρ H Hf [] [] none := .nil
  refine ⟨[], Hf, _, outs, ar.srel s.sub, rfl, e3, fun v H2 Hf2 σ' sc tc rc => ?_⟩
  obtain ⟨a, b, c⟩ := call_back s Step.refl ar sc tc rc
  exact q v H2 Hf2 a b c
/-! ### a call by keywords alone -/
def pmV (pm : List Nat) (zs : List V) : List V := pm.map fun k => zs.getD k .non
def pmU (pm : List Nat) (ws : List Value) : List Value := pm.map fun k => ws.getD k .none
def KwB (K : Fg) (fd : FuncData) (ps kns : List Str) (pm : List Nat) : Prop := ∀ (s : Shared) (ws : List Value), K.In s.heap → ws.length = kns.length → BindsTo s fd ⟨[], kns.zip ws⟩ (ps.zip (pmU pm ws))
theorem vals_getD : ∀ {zs : List V} {ws : List Value}, Vals zs ws → ∀ k, RelV (zs.getD k .non) (ws.getD k .none)
  | _, _, .nil, k => by simp; rfl
  | _, _, .cons h t, 0 => by simpa using h
  | _, _, .cons h t, k + 1 => by simpa using vals_getD t k
theorem pm_rel {zs : List V} {ws : List Value} (h : Vals zs ws) : ∀ pm : List Nat, Vals (pmV pm zs) (pmU pm ws)
  | [] => .nil
  | k :: r => .cons (vals_getD h k) (pm_rel h r)
theorem pk_of : ∀ {kws : List Keyword} {ts : List TE}, PEs X (kws.map (·.value)) ts → PK X kws (tL ts)
  | [], _, h => by cases h; exact pk_nil
  | ⟨nm, e, p⟩ :: kws, _, h => by
    cases h with
    | cons h t => exact pk_cons h (pk_of t)
theorem kw_all {pos : Pos} {env : Env} : ∀ {kws : List Keyword}, kws.all (·.arg.isSome) = true → (backToKw pos (keywordEach kws env)).all (·.1.isSome) = true ∧ (backToKw pos (keywordEach kws env)).any (·.1.isNone) = false ∧ (backToKw pos (keywordEach kws env)).filterMap (·.1) = kws.filterMap (·.arg)
  | [], _ => ⟨rfl, rfl, rfl⟩
  | ⟨nm, e, p⟩ :: kws, h => by
    rw [List.all_cons, Bool.and_eq_true] at h
    obtain ⟨h1, h2, h3⟩ := kw_all (pos := pos) (env := env) h.2
    cases nm with
    | none => exact absurd h.1 (by simp)
    | some nm =>
      refine ⟨?_, ?_, ?_⟩
      · show (true && (backToKw pos (keywordEach kws env)).all (·.1.isSome)) = true
        rw [h1]; rfl
      · show (false || (backToKw pos (keywordEach kws env)).any (·.1.isNone)) = false
        rw [h2]; rfl
      · show nm :: (backToKw pos (keywordEach kws env)).filterMap (·.1) = _
        rw [h3]; rfl
theorem pe_callK0 {x : Str} {f : Addr} {fd : FuncData} {ps kns : List Str} {pm : List Nat} {k : Nat} {sp : Sp} {kws : List Keyword} {tk : TA} {p pos : Pos} (F : FnOk X.prog X.w X.K X.mg X.base CX0 k f fd ps sp) (hr : Room k X.A) (hg : Gl X x) (hm : X.mg x = some (.ref f)) (hk : PySem.W.keepIn X.K (.ref f) = true) (hb : KwB X.K fd ps kns pm)
    (hkw : PK X kws tk) (hall : (backToKw pos (keywordEach kws X.env)).all (·.1.isSome) = true) (hks : (backToKw pos (keywordEach kws X.env)).filterMap (·.1) = kns) (hno : (backToKw pos (keywordEach kws X.env)).any (·.1.isNone) = false) (hdb : (x == ("__debug__" : Str)) = false) :
    PE X (.Call (.Name x p) [] kws pos) (fun σ H Q => tk σ H fun zs H2 => zs.length = kns.length ∧ sp (pmV pm zs) H2 Q E0) := by
  have kb : KBn X.K fd ps 0 kns (fun _ ws => pmU pm ws) (fun _ zs => pmV pm zs) := ⟨fun s us ws X l1 l2 => by
    have e : us = [] := List.eq_nil_of_length_eq_zero l1
    subst e
    exact hb s ws X l2, fun _ r2 => pm_rel r2 pm⟩
  refine ⟨fun pins s σ H Q I h => ?_⟩
  refine wpAny_Call_Name_kw (ld_glob I hg hm ?_ hdb)
  refine PySem.W.callWith_KW0 (h₀ := X.base) I.ok.mod.kin hk hall ?_ (by show (false || _) = false; rw [hno]; rfl)
  refine thn (hkw.run pos pins s σ H _ I h) fun ws s2 ⟨zs, H2, I2, rz, l2, q2⟩ => ⟨I2.kIn, ?_⟩
  rw [hks]
  exact run_fnN F hr kb pass0 I2 .nil rz rfl l2 q2
theorem evA_dat : ∀ {cs : List E} {ρ : Rho} {as : List SV} {bk : Back} {ρ' : Rho}, evA φ cs [] ρ = some (as, bk, ρ') → bk = none ∧ ∀ a ∈ as, ∃ d, a = .dat d
  | [], ρ, as, bk, ρ', h => by
    simp only [evA] at h
    cases h
    exact ⟨rfl, fun a h => nomatch h⟩
  | c :: cs, ρ, as, bk, ρ', h => by
    have hb : bArg (List.headD [] false) c = none := by cases c <;> rfl
    simp only [evA, hb] at h
    obtain ⟨⟨r, ρ1⟩, e1, h⟩ := bindE h
    rw [Option.map_eq_some_iff] at h
    obtain ⟨⟨as2, bk2, ρ2⟩, e2, h⟩ := h
    cases h
    obtain ⟨rfl, h2⟩ := evA_dat e2
    refine ⟨rfl, fun a ha => ?_⟩
    rcases List.mem_cons.mp ha with rfl | ha
    · exact ⟨_, rfl⟩
    · exact h2 a ha
theorem evA_len : ∀ {cs : List E} {ρ : Rho} {as : List SV} {bk : Back} {ρ' : Rho}, evA φ cs [] ρ = some (as, bk, ρ') → as.length = cs.length
  | [], ρ, as, bk, ρ', h => by
    simp only [evA] at h
    cases h
    rfl
  | c :: cs, ρ, as, bk, ρ', h => by
    have hb : bArg (List.headD [] false) c = none := by cases c <;> rfl
    simp only [evA, hb] at h
    obtain ⟨⟨r, ρ1⟩, e1, h⟩ := bindE h
    rw [Option.map_eq_some_iff] at h
    obtain ⟨⟨as2, bk2, ρ2⟩, e2, h⟩ := h
    cases h
    rw [List.length_cons, List.length_cons, evA_len e2]
theorem kw_len : ∀ {kws : List Keyword}, kws.all (·.arg.isSome) = true → (kws.filterMap (·.arg)).length = kws.length
  | [], _ => rfl
  | ⟨nm, e, p⟩ :: kws, h => by
    rw [List.all_cons, Bool.and_eq_true] at h
    cases nm with
    | none => exact absurd h.1 (by simp)
    | some nm =>
      show (nm :: kws.filterMap (·.arg)).length = _
      rw [List.length_cons, List.length_cons, kw_len h.2]
theorem perm_ok {as : List SV} : ∀ {pm : List Nat} {as' : List SV}, (pm.mapM fun k => as[k]?) = some as' → as'.length = pm.length ∧ ∀ (j : Nat) (a : SV), as'[j]? = some a → ∃ k, pm[j]? = some k ∧ as[k]? = some a
  | [], as', h => by
    simp at h
    subst h
    exact ⟨rfl, fun j a h => by simp at h⟩
  | k :: r, as', h => by
    rw [List.mapM_cons] at h
    obtain ⟨a, h1, h⟩ := bindE h
    obtain ⟨bs, h2, h⟩ := bindE h
    cases h
    obtain ⟨l, g⟩ := perm_ok h2
    refine ⟨by rw [List.length_cons, List.length_cons, l], fun j b hj => ?_⟩
    cases j with
    | zero => simp at hj; subst hj; exact ⟨k, rfl, h1⟩
    | succ j =>
      obtain ⟨k', e1, e2⟩ := g j b (by simpa using hj)
      exact ⟨k', by simpa using e1, e2⟩
theorem pmV_get {zs : List V} {pm : List Nat} {j k : Nat} {v : V} (h : pm[j]? = some k) (hv : zs[k]? = some v) : (pmV pm zs)[j]? = some v := by
  unfold pmV
  rw [List.getElem?_map, h, Option.map_some, List.getD_eq_getElem?_getD, hv]; rfl
theorem snd_callK {x : Str} {f : Addr} {fd : FuncData} {ps : List Str} {k : Nat} {kws : List Keyword} {cs : List E} {pm : List Nat} {p pos : Pos} (F : FOk X.prog X.w X.K X.mg X.base k φ x f fd ps) (hr : Room k X.A) (hg : Gl X x) (hd : (x == ("__debug__" : Str)) = false)
    (kb : KwB X.K fd ps (kws.filterMap (·.arg)) pm) (hk : kws.all (·.arg.isSome) = true) (hn : pm.isEmpty = false) (hl : cs.length = kws.length) (h : SndA X (kws.map (·.value)) (evA φ cs [])) : SndE X (.Call (.Name x p) [] kws pos) (evE φ (.call x pm [] cs)) := by
  obtain ⟨ts, p1, h1⟩ := h
  obtain ⟨k1, k2, k3⟩ := kw_all (pos := pos) (env := X.env) hk
  refine ⟨_, pe_callK0 F.ok hr hg F.at_ F.kp kb (pk_of p1) k1 k3 k2 hd, fun B σ H Hf ρ ρ' r Q s e q => ?_⟩
  simp only [evE] at e
  obtain ⟨⟨as, bk, ρ1⟩, e1, e⟩ := bindE e
  obtain ⟨rfl, hda⟩ := evA_dat e1
  dsimp only at e
  rw [if_pos (by simp)] at e
  obtain ⟨as', e2, e⟩ := bindE e
  rw [Option.map_eq_some_iff] at e
  obtain ⟨⟨r', outs⟩, e3, e⟩ := e
  cases e
  have e2 : (pm.mapM fun k => as[k]?) = some as' := by
    unfold perm at e2
    cases pm with
    | nil => simp at hn
    | cons a b => exact e2
  obtain ⟨pl, pg⟩ := perm_ok e2
  refine h1 B σ H Hf ρ ρ1 as none _ s e1 fun vs H1 Hf1 s1 t1 ar => ?_
  have ar' : ARel X.K B σ ρ H ρ1 H1 Hf1 (pmV pm vs) as' none := by
    have nd : ∀ (j : Nat) (t : Option Nat) (d : PyData), as'[j]? = some (.own t d) → False := fun j t d hj => by
      obtain ⟨k, _, hk⟩ := pg j _ hj
      obtain ⟨d', z⟩ := hda _ (List.mem_of_getElem? hk)
      cases z
    refine ⟨by rw [pl]; exact List.length_map _, fun j d hj => ?_, fun j t d hj => (nd j t d hj).elim, fun i j t u d e a hj => (nd i t d hj).elim, fun j i t z => nomatch z⟩
    obtain ⟨k, hk, hk2⟩ := pg j _ hj
    obtain ⟨v, m1, m2⟩ := ar.dat k d hk2
    exact ⟨v, pmV_get hk m1, m2⟩
  refine ⟨?_, as', Hf1, _, outs, ar'.srel s1.sub, ar'.len, e3, fun v H2 Hf2 σ' sc tc rc => ?_⟩
  · rw [ar.len, evA_len e1, hl, kw_len hk]
  · obtain ⟨a, b, c⟩ := call_back s1 t1 ar' sc tc rc
    exact q v H2 Hf2 a b c
end
end LI

set_option Elab.async false
set_option linter.all false
set_option autoImplicit false
set_option maxRecDepth 100000
set_option maxHeartbeats 4000000
namespace LI
open PySem PySem.Spec PyProof.Rows L2
/-! ### what is walked and gives out tuples: over lists and tuples, as they were at the start -/
def ItP (G : Hp → Prop) (n : Nat) (its : Nat → List V) : L2.It := ⟨fun i H => G H ∧ i < n, fun i H v H' => ∃ T, v = .ref T ∧ H T = none ∧ H' = upd H T (.tup (its i)), fun i H => G H ∧ i = n⟩
theorem turn_ofT {P : Program} {w : World} {K : PySem.W.Frag} {elts : List Expr} {kk : Nat} {tpos : Pos} {I : Addr} {fpT wr : List Addr} {n : Nat} {G : Hp → Prop} {its : Nat → List V} {tn : Nat → Heap → Prop} {S : Type} {Good : S → Prop} {Has : S → Heap → Prop}
    (hm : I ∈ fpT) (hw : ∀ b ∈ wr, b ∈ fpT) (hl : ∀ i, (its i).length ≤ sizeLine)
    (obj : ∀ i h, tn i h → ∀ b ∈ fpT, ∃ o, h.get? b = some o ∧ ∀ v, o.data ≠ .cell v)
    (keep : ∀ i h h', tn i h → (∀ b ∈ fpT, ∀ o, h.get? b = some o → h'.get? b = some o) → tn i h')
    (W : ∀ (A : Around) (c : S), A.handled = none → Good c → ∃ fp Pt St Mid, WalksT P w A I fp wr n Pt St Mid ∧ (∀ i h, tn i h → Has c h → St i h) ∧ (∀ i h, St i h → tn i h) ∧ (∀ i vals, i < n → Pt i vals → Vals (its i) vals.toList))
    (src : ∀ (X : Cx) (pins : List (Addr × Obj)) (σ : L2.St) (H : Hp) (s : Shared), X.prog = P → X.w = w → X.K = K → Inv X pins σ H s → G H → ∃ c, Good c ∧ Has c s.heap)
    (self : ∀ (A : Around) (i : Nat) (s : Shared) (Q : Value → Shared → Prop) (E : Value → Shared → Prop), tn i s.heap → Q (.ref I) s → wpAny (model P w) A (pyIter (.ref I)) Q E s) :
    Turn P w K (.Tuple elts kk tpos) (ItP G n its) fpT I tn where
  mem := hm
  obj := obj
  keep := keep
  self := self
  item := by
    intro X hP hw' hK hc i pins s σ H E Iv hf st hg
    obtain ⟨c, gc, hc'⟩ := src X pins σ H s hP hw' hK Iv hg.1
    obtain ⟨fp, Pt, St, Mid, WT, w1, w2, w3⟩ := W X.A c (Iv.ok.hd hc) gc
    subst hP hw' hK
    refine WT.item i s _ _ hg.2 (w1 i _ st hc') fun T vals h' tk hPt hT hIsT hMid hk => ?_
    refine ⟨_, rfl, WT.go elts kk tpos i T _ _ _ hMid fun h'' st'' hk2 => ?_⟩
    have hTn : T ∉ wr := WT.apart i T h' hMid
    have hIs2 : h''.IsTuple T vals := by
      obtain ⟨o, e, r⟩ := hIsT
      exact ⟨o, hk2 T o hTn e, r⟩
    have nf : ∀ b ∈ fpT, b ≠ T := fun b hb z => by
      obtain ⟨o, e, _⟩ := obj i _ st b hb
      have := Heap.lt_size e
      rw [z] at this
      exact absurd (Nat.lt_of_lt_of_le this hT) (Nat.lt_irrefl _)
    have new : ObjOk X.prog X.w (upd H T (.tup (its i))) h'' T (.tup (its i)) := ⟨hl i, vals.toList, w3 i vals hg.2 hPt, by rw [Array.toArray_toList]; exact hIs2⟩
    have I1 : Inv X pins σ (upd H T (.tup (its i))) { s with heap := h'', toks := tk } :=
      Iv.turnedNew (ch := fpT) (fun b ob hb q => hk2 b ob (fun z => hb (hw b z)) (hk b ob (fun z => hb (hw b z)) q)) hf hT new
    exact ⟨.ref T, _, I1, rfl, ⟨T, rfl, Iv.hok.fresh hT, rfl⟩, w2 _ _ st'', fun b hb => by rw [upd_ne (nf b hb)]; exact (hf b hb).1⟩
  done := by
    intro X hP hw' hK hc i pins s σ H E Iv hf st hg
    obtain ⟨c, gc, hc'⟩ := src X pins σ H s hP hw' hK Iv hg.1
    obtain ⟨fp, Pt, St, Mid, WT, w1, w2, w3⟩ := W X.A c (Iv.ok.hd hc) gc
    subst hP hw' hK
    have ei : i = n := hg.2
    subst ei
    refine WT.done s _ _ (w1 _ _ st hc') fun h' tk hk => ⟨rfl, ?_⟩
    refine Iv.step (g' := s.gens) (d' := s.drawn) (ch := fpT) (fun b hb => ⟨(hf b hb).2.2.2.1, (hf b hb).2.1, (hf b hb).2.2.2.2.1, (hf b hb).2.2.2.2.2⟩) (fun b o _ _ hc e _ => hk b o (fun z => hc (hw b z)) e)
      (fun b o _ _ hc e _ => ⟨o.slots, hk b o (fun z => hc (hw b z)) e⟩) (fun _ _ _ _ n => n) (fun b o hc e => ⟨o, hk b o (fun z => hc (hw b z)) e⟩) (fun _ _ e => e) (fun _ _ _ e => e) (fun b ps e => ⟨#[], by rw [e]; simp⟩) (fun m hm' => ?_) (fun b u e => ?_) Iv.bare
    · obtain ⟨o, es, ep, ho, r⟩ := hm'
      exact ⟨o, es, ep, hk _ o (fun z => (hf _ (hw _ z)).2.1 rfl) ho, r⟩
    · have nit : ∀ b u, H b = some u → b ∉ wr := fun b u e z => by
        have q := (hf b (hw b z)).1
        rw [q] at e; cases e
      refine (Iv.hok b u e).stay (fun c v hc q => hk c v ?_ q) (fun _ q => q) fun _ _ q => q
      rcases hc with z | z
      · rw [z]; exact nit b u e
      · exact nit c _ z
/-! ### a source: a list or a tuple -/
def isIt (l : Bool) (h : Heap) (it a : Addr) (i : Nat) : Prop := if l then h.IsListIter it a i else h.IsTupleIter it a i
def isSq (l : Bool) (h : Heap) (a : Addr) (items : Array Value) : Prop := if l then h.IsList a items else h.IsTuple a items
def SqX (l : Bool) (K : PySem.W.Frag) (H : Hp) (a : Addr) (xs : List V) : Prop := if l then SqL K H a xs else SqT K H a xs
def itO (l : Bool) (a : Addr) : Obj := if l then { cls := .type "list_iterator", data := .fields #[.ref a, .int 0 0] } else { cls := .type "tuple_iterator", data := .fields #[.ref a, .int 0 0] }
theorem draws_x {P : Program} {w : World} {A : Around} (l : Bool) (hh : A.handled = none) (it a : Addr) (hne : a ≠ it) (items : Array Value) : Draws P w A it [it, a] items.size (fun i v => items[i]? = some v) (fun i h => isIt l h it a i ∧ isSq l h a items) := by
  cases l with
  | true => exact Draws.list hh it a hne items
  | false => exact Draws.tuple hh it a hne items
theorem begins_x (l : Bool) (a : Addr) (items : Array Value) : Begins (.ref a) (itO l a) fun h => isSq l h a items := by
  cases l with
  | true => exact begins_list a items
  | false => exact begins_tuple a items
theorem isIt_0 {l : Bool} {h : Heap} {it a : Addr} (e : h.get? it = some (itO l a)) : isIt l h it a 0 := by
  cases l with
  | true => exact ⟨_, e, rfl, rfl⟩
  | false => exact ⟨_, e, rfl, rfl⟩
theorem isIt_obj {l : Bool} {h : Heap} {it a : Addr} {i : Nat} (e : isIt l h it a i) : ∃ o, h.get? it = some o ∧ ∀ v, o.data ≠ .cell v := by
  cases l with
  | true => obtain ⟨o, e, c, d⟩ := e; exact ⟨o, e, fun v z => by rw [d] at z; cases z⟩
  | false => obtain ⟨o, e, c, d⟩ := e; exact ⟨o, e, fun v z => by rw [d] at z; cases z⟩
theorem isIt_at {l : Bool} {h h' : Heap} {it a : Addr} {i : Nat} (e : isIt l h it a i) (k : ∀ o, h.get? it = some o → h'.get? it = some o) : isIt l h' it a i := by
  cases l with
  | true => exact Heap.IsListIter.at e k
  | false => exact Heap.IsTupleIter.at e k
theorem src_x {X : Cx} {pins : List (Addr × Obj)} {σ : L2.St} {H : Hp} {s : Shared} (I : Inv X pins σ H s) {l : Bool} {a : Addr} {xs : List V} (h : SqX l X.K H a xs) : ∃ items : Array Value, Vals xs items.toList ∧ isSq l s.heap a items ∧ a < s.heap.objs.size ∧ items.size = xs.length := by
  cases l with
  | true =>
    obtain ⟨its, rv, pl, hz⟩ := I.list h
    have pl' := pl.isList
    obtain ⟨o, e, _⟩ := id pl'
    exact ⟨its.toArray, by simpa using rv, pl', Heap.lt_size e, by simp [rv.length]⟩
  | false =>
    obtain ⟨its, rv, pl, hz⟩ := I.tuple h
    obtain ⟨o, e, _⟩ := id pl
    exact ⟨its.toArray, by simpa using rv, pl, Heap.lt_size e, by simp [rv.length]⟩
/-! ### enumerate -/
theorem meets_en1 {v : Value} {o : Obj} {H : Heap → Prop} (B : Begins v o H) :
    Meets (Builtin.«enumerate.__new__» ⟨[.type "enumerate", v], []⟩) (fun _ R s => H s.heap ∧
      R (.ok (.ret (.ref (s.heap.push o).objs.size))) { s with heap := (s.heap.push o).push { cls := .type "enumerate", data := .fields #[.none, .bool false, .ref s.heap.objs.size, rawInt 0, .none, .none] } }) :=
  .of_wp fun prog w A R s h => by
    obtain ⟨hp, g, d, tk, os⟩ := s; obtain ⟨h1, h⟩ := h
    have hsub := sub_enumerate
    have q1 : ∀ {A' : Around} {E : Value → Shared → Prop} {Q : Value → Shared → Prop}, Q (.ref hp.objs.size) ⟨hp.push o, g, d, tk, os⟩ → wpAny (model prog w) A' (pyIter v) Q E ⟨hp, g, d, tk, os⟩ :=
      fun q => B.iter prog w _ _ ⟨hp, g, d, tk, os⟩ _ h1 q
    wp_walk using q1
    refine wpAny_stack_any fun st => wpAny_pure ?_
    split
    · rename_i c _ _ _ _ _
      cases (c == Value.type "enumerate") <;> (wp_walk using q1; exact ⟨_, rfl, h⟩)
    · wp_walk using q1
      exact ⟨_, rfl, h⟩
section
variable {P : Program} {w : World} {A : Around} {E : Value → Shared → Prop} {s : Shared}
theorem en_begins {v : Value} {o : Obj} {H : Heap → Prop} {Q : Value → Shared → Prop} (B : Begins v o H) (h1 : H s.heap)
    (h : ∀ h', IsEnum h' (s.heap.objs.size + 1) s.heap.objs.size 0 .none → h'.get? s.heap.objs.size = some o → (∀ b o, s.heap.get? b = some o → h'.get? b = some o) → Q (.ref (s.heap.objs.size + 1)) { s with heap := h' }) :
    wpAny (model P w) A (call (.type "enumerate") [v]) Q E s := by
  refine callType_new F.called_enumerate (by decide) (F.typeCall_enumerate_1 _) (F.newCall_enumerate_1 _) (fun obj => F.args_object_init_2 obj _) F.entry_enumerate_new (meets_en1 B) ⟨h1, ?_⟩
  have hz : (s.heap.push o).objs.size = s.heap.objs.size + 1 := Heap.size_push ..
  show _ ∧ _
  rw [hz]
  have he : IsEnum ((s.heap.push o).push { cls := .type "enumerate", data := .fields #[.none, .bool false, .ref s.heap.objs.size, rawInt 0, .none, .none] }) (s.heap.objs.size + 1) s.heap.objs.size 0 .none := by
    have q := Heap.get?_push_size (s.heap.push o) (o := { cls := .type "enumerate", data := .fields #[.none, .bool false, .ref s.heap.objs.size, rawInt 0, .none, .none] }) rfl
    rw [hz] at q; exact q
  exact ⟨⟨_, he, rfl⟩, h _ he (Heap.get?_push_of_some _ (Heap.get?_push_size _ B.free)) fun b o x => Heap.get?_push_of_some _ (Heap.get?_push_of_some _ x)⟩
end
def enIts (xs : List V) (i : Nat) : List V := [.int (i : Nat), (xs[i]?).getD .non]
theorem turn_enX {P : Program} {w : World} {K : PySem.W.Frag} {elts : List Expr} {kk : Nat} {tpos : Pos} (l : Bool) (a e it : Addr) (xs : List V) (hai : a ≠ it) (hae : e ≠ a) (hei : e ≠ it) :
    Turn P w K (.Tuple elts kk tpos) (ItP (fun H => SqX l K H a xs) xs.length (enIts xs)) [e, it] e (fun i h => (∃ old, IsEnum h e it ((i : Nat) : Int) old) ∧ isIt l h it a i) := by
  refine turn_ofT (wr := [e, it]) (S := Array Value) (Good := fun items => Vals xs items.toList ∧ items.size = xs.length) (Has := fun items h => isSq l h a items) (by simp) (fun b h => h) (fun i => (by decide : 2 ≤ sizeLine)) ?_ ?_ ?_ ?_ ?_
  · rintro i h ⟨⟨old, he⟩, hi⟩ b hb
    have e' : b = e ∨ b = it := by simpa using hb
    rcases e' with z | z
    · rw [z]; exact ⟨_, he, fun v q => nomatch q⟩
    · rw [z]; exact isIt_obj hi
  · rintro i h h' ⟨⟨old, he⟩, hi⟩ k
    exact ⟨⟨old, k e (by simp) _ he⟩, isIt_at hi fun o q => k it (by simp) o q⟩
  · rintro A items hh ⟨rv, hn⟩
    have D := draws_x (P := P) (w := w) (A := A.in1) l (by simpa using hh) it a hai items
    have WT := WalksT.enumFrom 0 D e hei (by simp [hei, hae]) (by simp)
    rw [hn] at WT
    refine ⟨_, _, _, _, WT, fun i h ⟨⟨old, he⟩, hi⟩ hs => ⟨⟨old, by rw [Int.zero_add]; exact he⟩, hi, hs⟩, fun i h ⟨⟨old, he⟩, hi, _⟩ => ⟨⟨old, by rw [Int.zero_add] at he; exact he⟩, hi⟩, ?_⟩
    rintro i vals hi ⟨t, x, hx, rfl⟩
    have hx' : items.toList[i]? = some x := by rw [Array.getElem?_toList]; exact hx
    unfold enIts
    rw [List.getElem?_eq_getElem hi]
    obtain ⟨u, hu, ru⟩ := rv.get (List.getElem?_eq_getElem hi)
    rw [hx'] at hu; cases hu
    exact .cons ⟨t, by rw [Int.zero_add]⟩ (.cons ru .nil)
  · rintro X pins σ H s hP hw hK I g
    subst hK
    obtain ⟨items, h1, h2, _, h4⟩ := src_x I g
    exact ⟨items, ⟨h1, h4⟩, h2⟩
  · rintro A i s Q E ⟨⟨_, he⟩, _⟩ h
    exact wpAny_pyIter_enum he h
section
variable {X : Cx}
def iEnX (K : PySem.W.Frag) (ta : TA) : TI := fun σ H R => ta σ H fun vs H1 => ∃ l a xs, vs = [.ref a] ∧ SqX l K H1 a xs ∧ R (ItP (fun H => SqX l K H a xs) xs.length (enIts xs)) H1
theorem pi_enX {e : Expr} {ta : TA} {p pos tpos : Pos} {elts : List Expr} {kk : Nat} (hg : Gl X "enumerate") (hm : X.mg "enumerate" = none) (ha : PA X [e] ta) (hs : starEach [e] X.env = [(false, eval e X.env)]) :
    PI X (.Tuple elts kk tpos) (.Call (.Name "enumerate" p) [e] [] pos) (iEnX X.K ta) := by
  refine ⟨fun pins s σ H R I h => ?_⟩
  refine Call_ (ld_blt I hg hm boot_enumerate (PyProof.Rows.callWith_type1 (thn (ha.run pos pins s σ H _ I h) fun us s1 ⟨vs, H1, I1, r1, q1⟩ => ?_) hs rfl))
  obtain ⟨l, a, xs, rfl, hq, q⟩ := q1
  rw [Vals.ref1 r1]
  obtain ⟨items, h1, h2, h3, h4⟩ := src_x I1 hq
  refine en_begins (begins_x l a items) h2 fun h' he hit hk => wpAny_pyIter_enum he ?_
  have I2 : Inv X pins σ H1 { s1 with heap := h' } := I1.kept (t' := s1.toks) hk
  refine ⟨s1.heap.objs.size + 1, [s1.heap.objs.size + 1, s1.heap.objs.size], _, _, H1, rfl, I2, turn_enX l a (s1.heap.objs.size + 1) s1.heap.objs.size xs (Nat.ne_of_lt h3) (Nat.ne_of_gt (Nat.lt_succ_of_lt h3)) (Nat.succ_ne_self _), ⟨⟨.none, he⟩, isIt_0 hit⟩, fun b hb => ?_, q⟩
  have e' : b = s1.heap.objs.size + 1 ∨ b = s1.heap.objs.size := by simpa using hb
  have hle : s1.heap.objs.size ≤ b := by
    rcases e' with z | z
    · rw [z]; exact Nat.le_succ _
    · rw [z]; exact Nat.le_refl _
  exact I1.fpOk hle (I1.hok.fresh hle)
end
/-! ### zip -/
def zpIts (xs ys : List V) (i : Nat) : List V := [(xs[i]?).getD .non, (ys[i]?).getD .non]
theorem turn_zpX {P : Program} {w : World} {K : PySem.W.Frag} {elts : List Expr} {kk : Nat} {tpos : Pos} (l m : Bool) (a b N : Nat) (xs ys : List V) (ha : a < N) (hb : b < N) :
    Turn P w K (.Tuple elts kk tpos) (ItP (fun H => SqX l K H a xs ∧ SqX m K H b ys) (min xs.length ys.length) (zpIts xs ys)) [N + 4, N + 2, N + 3, N, N + 1] (N + 4)
      (fun i h => IsZip h (N + 4) (N + 2) (N + 3) .none ∧ IsTupOf2 h (N + 2) (.ref N) (.ref (N + 1)) ∧ (∃ a1 a2, IsTupOf2 h (N + 3) a1 a2) ∧ isIt l h N a i ∧ isIt m h (N + 1) b i) := by
  refine turn_ofT (wr := [N + 4, N + 3, N, N + 1]) (S := Array Value × Array Value) (Good := fun c => (Vals xs c.1.toList ∧ c.1.size = xs.length) ∧ (Vals ys c.2.toList ∧ c.2.size = ys.length)) (Has := fun c h => isSq l h a c.1 ∧ isSq m h b c.2) (by simp) (fun c h => ?_) (fun i => (by decide : 2 ≤ sizeLine)) ?_ ?_ ?_ ?_ ?_
  · have h' : c = N + 4 ∨ c = N + 3 ∨ c = N ∨ c = N + 1 := by simpa using h
    rcases h' with z | z | z | z <;> simp [z]
  · rintro i h ⟨hz, hT, ⟨a1, a2, hO⟩, h1, h2⟩ c hc
    have h' : c = N + 4 ∨ c = N + 2 ∨ c = N + 3 ∨ c = N ∨ c = N + 1 := by simpa using hc
    rcases h' with z | z | z | z | z
    · rw [z]; exact ⟨_, hz, fun v q => nomatch q⟩
    · rw [z]; exact ⟨_, hT, fun v q => nomatch q⟩
    · rw [z]; exact ⟨_, hO, fun v q => nomatch q⟩
    · rw [z]; exact isIt_obj h1
    · rw [z]; exact isIt_obj h2
  · rintro i h h' ⟨hz, hT, ⟨a1, a2, hO⟩, h1, h2⟩ k
    exact ⟨k _ (by simp) _ hz, k _ (by simp) _ hT, ⟨a1, a2, k _ (by simp) _ hO⟩, isIt_at h1 fun o q => k _ (by simp) o q, isIt_at h2 fun o q => k _ (by simp) o q⟩
  · rintro A ⟨c1, c2⟩ hh ⟨⟨rv1, hn1⟩, ⟨rv2, hn2⟩⟩
    have D1 := draws_x (P := P) (w := w) (A := A.in1) l (by simpa using hh) N a (Nat.ne_of_lt ha) c1
    have D2 := draws_x (P := P) (w := w) (A := A.in1) m (by simpa using hh) (N + 1) b (Nat.ne_of_lt (Nat.lt_succ_of_lt hb)) c2
    have S2 := zip_sep2 (N := N) (fp1 := [a]) (fp2 := [b]) (by simpa using ha) (by simpa using hb)
    have WT := WalksT.zipD2 S2 D1 D2
    have e1 : min c1.size c2.size = min xs.length ys.length := by
      have q1 : c1.size = xs.length := hn1
      have q2 : c2.size = ys.length := hn2
      rw [q1, q2]
    rw [e1] at WT
    refine ⟨_, _, _, _, WT, fun i h ⟨hz, hT, hO, h1, h2⟩ hs => ⟨hz, hT, hO, ⟨h1, hs.1⟩, ⟨h2, hs.2⟩⟩, fun i h ⟨hz, hT, hO, h1, h2⟩ => ⟨hz, hT, hO, h1.1, h2.1⟩, ?_⟩
    rintro i vals hi ⟨x1, x2, y1, y2, rfl⟩
    have hx1 : c1.toList[i]? = some x1 := by rw [Array.getElem?_toList]; exact y1
    have hx2 : c2.toList[i]? = some x2 := by rw [Array.getElem?_toList]; exact y2
    have i1 : i < xs.length := by omega
    have i2 : i < ys.length := by omega
    unfold zpIts
    rw [List.getElem?_eq_getElem i1, List.getElem?_eq_getElem i2]
    obtain ⟨u1, hu1, ru1⟩ := rv1.get (List.getElem?_eq_getElem i1)
    obtain ⟨u2, hu2, ru2⟩ := rv2.get (List.getElem?_eq_getElem i2)
    have hu1 : c1.toList[i]? = some u1 := hu1
    have hu2 : c2.toList[i]? = some u2 := hu2
    rw [hx1] at hu1; cases hu1
    rw [hx2] at hu2; cases hu2
    exact .cons ru1 (.cons ru2 .nil)
  · rintro X pins σ H s hP hw hK I g
    subst hK
    obtain ⟨c1, h1, h2, _, h4⟩ := src_x I g.1
    obtain ⟨c2, k1, k2, _, k4⟩ := src_x I g.2
    exact ⟨(c1, c2), ⟨⟨h1, h4⟩, ⟨k1, k4⟩⟩, ⟨h2, k2⟩⟩
  · rintro A i s Q E ⟨hz, _⟩ h
    exact wpAny_pyIter_zip hz h
section
variable {X : Cx}
def iZpX (K : PySem.W.Frag) (ta : TA) : TI := fun σ H R => ta σ H fun vs H1 => ∃ l m a b xs ys, vs = [.ref a, .ref b] ∧ SqX l K H1 a xs ∧ SqX m K H1 b ys ∧ R (ItP (fun H => SqX l K H a xs ∧ SqX m K H b ys) (min xs.length ys.length) (zpIts xs ys)) H1
theorem pi_zpX {e e2 : Expr} {ta : TA} {p pos tpos : Pos} {elts : List Expr} {kk : Nat} (hg : Gl X "zip") (hm : X.mg "zip" = none) (ha : PA X [e, e2] ta) (hs : starEach [e, e2] X.env = [(false, eval e X.env), (false, eval e2 X.env)]) (hs2 : starEach [e2] X.env = [(false, eval e2 X.env)]) :
    PI X (.Tuple elts kk tpos) (.Call (.Name "zip" p) [e, e2] [] pos) (iZpX X.K ta) := by
  refine ⟨fun pins s σ H R I h => ?_⟩
  refine Call_ (ld_blt I hg hm boot_zip (PyProof.Rows.callWith_type1 (thn (ha.run pos pins s σ H _ I h) fun us s1 ⟨vs, H1, I1, r1, q1⟩ => ?_) (by rw [hs, hs2]) (by rw [hs2]; rfl)))
  obtain ⟨l, m, a, b, xs, ys, rfl, hq, hq2, q⟩ := q1
  obtain ⟨u1, u2, rfl, ru1, ru2⟩ := vals2 r1
  cases ru1
  cases ru2
  obtain ⟨c1, h1, h2, h3, h4⟩ := src_x I1 hq
  obtain ⟨c2, k1, k2, k3, k4⟩ := src_x I1 hq2
  refine zip_begins2 (begins_x l a c1) (begins_x m b c2) h2 k2 fun h' hz hT hO g1 g2 hsz hk => wpAny_pyIter_zip hz ?_
  have I2 : Inv X pins σ H1 { s1 with heap := h' } := I1.kept (t' := s1.toks) hk
  refine ⟨s1.heap.objs.size + 4, _, _, _, H1, rfl, I2, turn_zpX l m a b s1.heap.objs.size xs ys h3 k3, ⟨hz, hT, ⟨_, _, hO⟩, isIt_0 g1, isIt_0 g2⟩, fun c hc => ?_, q⟩
  have e' : c = s1.heap.objs.size + 4 ∨ c = s1.heap.objs.size + 2 ∨ c = s1.heap.objs.size + 3 ∨ c = s1.heap.objs.size ∨ c = s1.heap.objs.size + 1 := by simpa using hc
  have hle : s1.heap.objs.size ≤ c := by
    rcases e' with z | z | z | z | z <;> rw [z] <;> first | exact Nat.le_add_right _ _ | exact Nat.le_refl _
  exact I1.fpOk hle (I1.hok.fresh hle)
end
end LI

set_option Elab.async false
set_option linter.all false
set_option autoImplicit false
set_option maxRecDepth 100000
set_option maxHeartbeats 4000000
namespace LI
open PySem PySem.Spec PyProof.Rows L2
/-! ### the readings by the evaluator -/
def teS (K : Fg) (ev : Rho → Option (SV × Rho)) : TE := fun σ H Q => ∃ (B : List V) (Hf : Hp) (ρ ρ' : Rho) (r : SV), SRel K B σ H Hf ρ ∧ ev ρ = some (r, ρ') ∧ ∀ v H' Hf', SRel K B σ H' Hf' ρ' → Step σ ρ H Hf σ ρ' H' Hf' → RpV K σ ρ H σ ρ' H' Hf' v r → Q v H'
def ttS (K : Fg) (ev : Rho → Option (Bool × Rho)) : TT := fun σ H Q => ∃ (B : List V) (Hf : Hp) (ρ ρ' : Rho) (r : Bool), SRel K B σ H Hf ρ ∧ ev ρ = some (r, ρ') ∧ ∀ H' Hf', SRel K B σ H' Hf' ρ' → Step σ ρ H Hf σ ρ' H' Hf' → Q r H'
def tgS (K : Fg) (f : PyData → Rho → Option Rho) (is : List Nat) : TG := fun v σ H Q => ∃ (B : List V) (Hf : Hp) (ρ ρ' : Rho) (d : PyData), SRel K B σ H Hf ρ ∧ Rp K Hf v d ∧ f d ρ = some ρ' ∧ ∀ σ', SRel K B σ' H Hf ρ' → Step σ ρ H Hf σ' ρ' H Hf → (∀ j, j ∉ is → σ'[j]? = σ[j]?) → σ'.length = σ.length → Q σ' H
section
variable {X : Cx}
theorem SndE.pe {e : Expr} {ev : Rho → Option (SV × Rho)} (h : SndE X e ev) : PE X e (teS X.K ev) := by
  obtain ⟨te, p, h⟩ := h
  exact pe_weak p fun σ H Q ⟨B, Hf, ρ, ρ', r, s, e, q⟩ => h B σ H Hf ρ ρ' r Q s e q
theorem SndT.pt {e : Expr} {ev : Rho → Option (Bool × Rho)} (h : SndT X e ev) : PT X e (ttS X.K ev) := by
  obtain ⟨te, p, h⟩ := h
  exact ⟨fun pins s σ H Q I ⟨B, Hf, ρ, ρ', r, s', e, q⟩ => p.run pins s σ H Q I (h B σ H Hf ρ ρ' r Q s' e q)⟩
def SndG (X : Cx) (tg : Expr) (f : PyData → Rho → Option Rho) (is : List Nat) : Prop := PG X tg (tgS X.K f is)
/-! ### targets -/
theorem set_get {α : Type} {l : List α} {i j : Nat} {x y : α} (h : (l.set i x)[j]? = some y) : (i = j ∧ x = y ∧ i < l.length) ∨ (i ≠ j ∧ l[j]? = some y) := by
  by_cases z : i = j
  · subst z
    by_cases hl : i < l.length
    · rw [List.getElem?_set_self hl] at h; cases h; exact .inl ⟨rfl, rfl, hl⟩
    · rw [List.getElem?_eq_none (by simpa using hl)] at h; cases h
  · rw [List.getElem?_set_ne z] at h; exact .inr ⟨z, h⟩
theorem owns_setDat {σ : Sg} {ρ : Rho} {i : Nat} {a : Addr} {d : PyData} {v : V} (h : Owns (σ.set i (some v)) (ρ.set i (some (.dat d))) a) (hl : ρ.length = σ.length) : Owns σ ρ a := by
  obtain ⟨j, t, e, h1, h2⟩ := h
  rcases set_get h1 with ⟨_, z, _⟩ | ⟨n, h1⟩
  · cases z
  · rw [List.getElem?_set_ne n] at h2
    exact ⟨j, t, e, h1, h2⟩
theorem SRel.setDat {K : Fg} {B : List V} {σ : Sg} {H Hf : Hp} {ρ : Rho} {v : V} {d : PyData} (s : SRel K B σ H Hf ρ) (i : Nat) (h : Rp K Hf v d) : SRel K B (σ.set i (some v)) H Hf (ρ.set i (some (.dat d))) := by
  refine ⟨s.sub, by rw [List.length_set, List.length_set]; exact s.len, fun j d' e => ?_, fun j t d' e => ?_, fun j k t u d' e' b h1 h2 h3 h4 => ?_⟩
  · rcases set_get e with ⟨rfl, z, hl⟩ | ⟨n, e⟩
    · cases z
      exact ⟨v, by rw [List.getElem?_set_self (by rw [← s.len]; exact hl)], h⟩
    · rw [List.getElem?_set_ne n]; exact s.dat j d' e
  · rcases set_get e with ⟨_, z, _⟩ | ⟨n, e⟩
    · cases z
    · rw [List.getElem?_set_ne n]; exact s.own j t d' e
  · rcases set_get h1 with ⟨_, z, _⟩ | ⟨n1, h1⟩
    · cases z
    · rcases set_get h2 with ⟨_, z, _⟩ | ⟨n2, h2⟩
      · cases z
      · rw [List.getElem?_set_ne n1] at h3
        rw [List.getElem?_set_ne n2] at h4
        exact s.dis j k t u d' e' b h1 h2 h3 h4
theorem sndG_name {i : Nat} {x : Str} {pos : Pos} {is : List Nat} (hN : X.N.Nodup) (hi : X.N[i]? = some x) (hx : Loc X.env.scope x) (hf : X.fn x = true ∨ X.env.scope.names.lookup x = some .local) (hm : i ∈ is) : SndG X (.Name x pos) (setT (.name i)) is := by
  refine ⟨fun pins s σ H v u Q I r ⟨B, Hf, ρ, ρ', d, s', rp, e, q⟩ => (pg_name hN hi hx hf).run pins s σ H v u Q I r ?_⟩
  simp only [setT] at e
  cases e
  refine q (σ.set i (some v)) (s'.setDat i rp) ⟨Same.refl _, fun _ _ h _ => h, fun _ h => .inl h, fun a h => .inl (owns_setDat h s'.len)⟩ (fun j hj => ?_) (by rw [List.length_set])
  exact List.getElem?_set_ne fun z => hj (by rw [← z]; exact hm)
def SndGs (X : Cx) (es : List Expr) (f : List PyData → Rho → Option Rho) (is : List Nat) : Prop := ∃ g, PGs X es g ∧ ∀ (B : List V) (σ : Sg) (H Hf : Hp) (ρ ρ' : Rho) (vs : List V) (ds : List PyData) (Q : Sg → Hp → Prop), SRel X.K B σ H Hf ρ → RpAll X.K Hf vs ds → f ds ρ = some ρ' →
  (∀ σ', SRel X.K B σ' H Hf ρ' → Step σ ρ H Hf σ' ρ' H Hf → (∀ j, j ∉ is → σ'[j]? = σ[j]?) → σ'.length = σ.length → Q σ' H) → g vs σ H Q
theorem sndGs_nil {is : List Nat} : SndGs X [] (setTs []) is := by
  refine ⟨_, pgs_nil, fun B σ H Hf ρ ρ' vs ds Q s r e q => ?_⟩
  cases r with
  | nil => simp only [setTs] at e; cases e; exact ⟨rfl, q σ s Step.refl (fun _ _ => rfl) rfl⟩
  | cons _ _ => simp [setTs] at e
theorem assignEach_no {e : Expr} {es : List Expr} {env : Env} (h : noStar e = true) : (assignEach (e :: es) env) = (false, assign e env) :: assignEach es env := by
  cases e <;> first | rfl | (simp [noStar] at h)
theorem sndGs_cons {e : Expr} {es : List Expr} {t : T} {ts : List T} {is : List Nat} (hs : noStar e = true) (h : SndG X e (setT t) is) (k : SndGs X es (setTs ts) is) : SndGs X (e :: es) (setTs (t :: ts)) is := by
  obtain ⟨g, p, k⟩ := k
  refine ⟨_, pgs_cons h p (by rw [assignEach_no hs]; rfl), fun B σ H Hf ρ ρ' vs ds Q s r e q => ?_⟩
  cases r with
  | nil => simp [setTs] at e
  | cons r1 r2 =>
    simp only [setTs] at e
    obtain ⟨ρ1, e1, e2⟩ := bindE e
    refine ⟨_, _, rfl, B, Hf, ρ, ρ1, _, s, r1, e1, fun σ1 s1 t1 w1 l1 => ?_⟩
    exact k B σ1 H Hf ρ1 ρ' _ _ Q s1 r2 e2 fun σ2 s2 t2 w2 l2 => q σ2 s2 (t1.trans t2) (fun j hj => (w2 j hj).trans (w1 j hj)) (l2.trans l1)
theorem assignEach_len {env : Env} : ∀ es : List Expr, (assignEach es env).length = es.length
  | [] => rfl
  | e :: es => by cases e <;> (simp only [assignEach, List.length_cons, assignEach_len es])
theorem assignEach_st {env : Env} : ∀ es : List Expr, es.all noStar = true → (assignEach es env).findIdx? (·.1) = none
  | [], _ => rfl
  | e :: es, h => by
    rw [List.all_cons, Bool.and_eq_true] at h
    rw [assignEach_no h.1, List.findIdx?_cons]
    simp [assignEach_st es h.2]
theorem setTs_len : ∀ {ts : List T} {ds : List PyData} {r r' : Rho}, setTs ts ds r = some r' → ts.length = ds.length
  | [], [], _, _, _ => rfl
  | t :: ts, d :: ds, r, r', h => by
    simp only [setTs] at h
    obtain ⟨r1, _, h⟩ := bindE h
    rw [List.length_cons, List.length_cons, setTs_len h]
  | [], _ :: _, _, _, h => by simp [setTs] at h
  | _ :: _, [], _, _, h => by simp [setTs] at h
theorem sndG_tup {es : List Expr} {k : Nat} {pos : Pos} {ts : List T} {is : List Nat} (hc : X.calm = true) (hs : es.all noStar = true) (hl : es.length = ts.length) (h : SndGs X es (setTs ts) is) : SndG X (.Tuple es k pos) (setT (.tup ts)) is := by
  obtain ⟨g, p, h⟩ := h
  refine ⟨fun pins s σ H v u Q I r ⟨B, Hf, ρ, ρ', d, s', rp, e, q⟩ => (pg_tup (n := es.length) hc p (assignEach_len es) (assignEach_st es hs)).run pins s σ H v u Q I r ?_⟩
  cases rp with
  | tup ht hz ra =>
    simp only [setT] at e
    exact ⟨_, _, rfl, SqT.of (s'.sub _ _ ht), by rw [ra.length, hl]; exact (setTs_len e).symm, h B σ H Hf ρ ρ' _ _ Q s' ra e q⟩
  | _ => simp [setT] at e
end
/-! ### what is walked -/
def WalkD (K : Fg) (Hf : Hp) (J : L2.It) (items : List PyData) : Prop := Walk J items.length (fun H => Same Hf H) (fun i H x H' => ∃ d, items[i]? = some d ∧ ∀ Hf2, Same Hf Hf2 → Same Hf2 H → PPost K H Hf2 H' x (.dat d))
section
variable {X : Cx} {φ : Fn}
def SndI (X : Cx) (tg iter : Expr) (ev : Rho → Option (List PyData × Rho)) : Prop :=
  ∃ wi, PI X tg iter wi ∧ ∀ (B : List V) (σ : Sg) (H Hf : Hp) (ρ ρ' : Rho) (items : List PyData) (R : L2.It → Hp → Prop), SRel X.K B σ H Hf ρ → ev ρ = some (items, ρ') →
    (∀ J H' Hf', SRel X.K B σ H' Hf' ρ' → Step σ ρ H Hf σ ρ' H' Hf' → WalkD X.K Hf' J items → items.length ≤ sizeLine → R J H') → wi σ H R
def iSeq (K : Fg) (tl : TE) : TI := fun σ H R => tl σ H fun x H1 => ∃ a, x = .ref a ∧ (((∃ xs, SqL K H1 a xs) ∧ R (Itl K a) H1) ∨ ((∃ xs, SqT K H1 a xs) ∧ R (Itt K a) H1))
theorem pi_seq {tg l : Expr} {tl : TE} (hl : PE X l tl) : PI X tg l (iSeq X.K tl) := by
  refine ⟨fun pins s σ H R I h => ?_⟩
  refine thn (hl.run pins s σ H _ I h) fun v s1 ⟨x, H1, I1, r1, q1⟩ => ?_
  obtain ⟨a, e, q⟩ := q1
  subst e
  cases r1
  rcases q with ⟨⟨xs, hq⟩, q⟩ | ⟨⟨xs, hq⟩, q⟩
  · obtain ⟨its, rv, p, hz⟩ := I1.list hq
    refine wpAny_pyIter_list p.isList ⟨s1.heap.objs.size, [s1.heap.objs.size], _, _, H1, rfl, I1.kept (t' := s1.toks) fun b o e => Heap.get?_push_of_some _ e, turn_list a _, ⟨_, Heap.get?_push_size _ rfl, rfl, rfl⟩, fun b hb => ?_, q⟩
    rw [show b = s1.heap.objs.size by simpa using hb]
    exact I1.fpOk (Nat.le_refl _) (I1.hok.fresh (Nat.le_refl _))
  · obtain ⟨its, rv, p, hz⟩ := I1.tuple hq
    refine wpAny_pyIter_tuple (show s1.heap.IsTuple a its.toArray from p) ⟨s1.heap.objs.size, [s1.heap.objs.size], _, _, H1, rfl, I1.kept (t' := s1.toks) fun b o e => Heap.get?_push_of_some _ e, turn_tuple a _, ⟨_, Heap.get?_push_size _ rfl, rfl, rfl⟩, fun b hb => ?_, q⟩
    rw [show b = s1.heap.objs.size by simpa using hb]
    exact I1.fpOk (Nat.le_refl _) (I1.hok.fresh (Nat.le_refl _))
theorem walk_sq {K : Fg} {Hf : Hp} {xs : List V} {ds : List PyData} (r : RpAll K Hf xs ds) {J : L2.It} {G : Hp → Prop} (w : Walk J xs.length G (YAt xs)) (hg : ∀ H, Same Hf H → G H) : WalkD K Hf J ds := by
  unfold WalkD
  rw [← r.length]
  refine w.mono hg fun i H x H' hi s y => ?_
  obtain ⟨rfl, e⟩ := y
  have hd : i < ds.length := by rw [← r.length]; exact hi
  obtain ⟨v, k1, k2⟩ := r.get (List.getElem?_eq_getElem hd)
  rw [e] at k1; cases k1
  exact ⟨_, List.getElem?_eq_getElem hd, fun Hf2 a b => pp_same b (k2.mono a)⟩
theorem sndI_seq {tg e : Expr} {c : E} (h : SndE X e (evE φ c)) : SndI X tg e (evI φ (.seq c)) := by
  obtain ⟨te, p, h⟩ := h.dt
  refine ⟨_, pi_seq p, fun B σ H Hf ρ ρ' items R s e q => ?_⟩
  simp only [evI] at e
  obtain ⟨⟨r, ρ1⟩, e1, e⟩ := bindE e
  rw [Option.map_eq_some_iff] at e
  obtain ⟨xs, e2, e3⟩ := e
  cases e3
  refine h B σ H Hf ρ _ r _ s e1 fun v H1 Hf1 s1 t1 rv => ?_
  obtain ⟨a, ys, rfl, hy, hz, ry⟩ := RpSeq rv e2
  have hz' : items.length ≤ sizeLine := by rw [← ry.length]; exact hz
  rcases hy with hy | hy
  · exact ⟨a, rfl, .inl ⟨⟨ys, s1.sub.seq hy⟩, q _ H1 Hf1 s1 t1 (walk_sq ry walk_list fun H z => z.seq hy) hz'⟩⟩
  · exact ⟨a, rfl, .inr ⟨⟨ys, same_sqT s1.sub hy⟩, q _ H1 Hf1 s1 t1 (walk_sq ry walk_tup fun H z => same_sqT z hy) hz'⟩⟩
theorem rgD_len (a b : Int) : (rgD a b).length = (b - a).toNat := by unfold rgD; rw [List.length_map, List.length_range]
theorem walk_rg {K : Fg} {Hf : Hp} (a b : Int) : WalkD K Hf (Itr a (b - a).toNat) (rgD a b) := by
  unfold WalkD
  rw [rgD_len]
  refine walk_range.mono (fun _ _ => trivial) fun i H x H' hi s y => ?_
  obtain ⟨rfl, rfl⟩ := y
  refine ⟨.int (a + (i : Nat)), ?_, fun Hf2 _ b => pp_same b (.int _)⟩
  unfold rgD
  rw [List.getElem?_map, List.getElem?_range hi]; rfl
theorem sndI_rng1 {tg e : Expr} {c : E} {p pos : Pos} (g : Gl X "range") (m : X.mg "range" = none) (hs : noStar e = true) (h : SndE X e (evE φ c)) : SndI X tg (.Call (.Name "range" p) [e] [] pos) (evI φ (.rng1 c)) := by
  obtain ⟨te, p1, h⟩ := h.dt
  refine ⟨_, pi_range1 g m (pa_cons p1 pa_nil (starEach_no hs)) (by rw [starEach_no hs]; rfl), fun B σ H Hf ρ ρ' items R s e q => ?_⟩
  simp only [evI] at e
  obtain ⟨⟨r, ρ1⟩, e1, e⟩ := bindE e
  dsimp only at e
  split at e
  · rename_i n hd
    split at e
    · rename_i c
      cases e
      refine h B σ H Hf ρ _ r _ s e1 fun v H1 Hf1 s1 t1 rv => ?_
      rw [hd] at rv
      cases rv
      have c := okRg_c c
      refine ⟨n, rfl, c.2.2.1, c.2.2.2.1, ?_⟩
      have w := walk_rg (K := X.K) (Hf := Hf1) 0 n
      rw [Int.sub_zero] at w
      exact q _ H1 Hf1 s1 t1 w (by rw [rgD_len, sizeLine_eq]; have := c.2.2.2.2; omega)
    · cases e
  · cases e
theorem sndI_rng2 {tg e f : Expr} {c d : E} {p pos : Pos} (g : Gl X "range") (m : X.mg "range" = none) (hs : noStar e = true) (hs2 : noStar f = true) (h : SndE X e (evE φ c)) (k : SndE X f (evE φ d)) : SndI X tg (.Call (.Name "range" p) [e, f] [] pos) (evI φ (.rng2 c d)) := by
  obtain ⟨te, p1, h⟩ := h.dt
  obtain ⟨tf, p2, k⟩ := k.dt
  refine ⟨_, pi_range2 g m (pa_cons p1 (pa_cons p2 pa_nil (starEach_no hs2)) (starEach_no hs)) (by rw [starEach_no hs, starEach_no hs2]; rfl) (by rw [starEach_no hs2]; rfl), fun B σ H Hf ρ ρ' items R s e q => ?_⟩
  simp only [evI] at e
  obtain ⟨⟨r, ρ1⟩, e1, e⟩ := bindE e
  obtain ⟨⟨r2, ρ2⟩, e2, e⟩ := bindE e
  dsimp only at e
  split at e
  · rename_i a b hd hd2
    split at e
    · rename_i c
      cases e
      refine h B σ H Hf ρ _ r _ s e1 fun v H1 Hf1 s1 t1 rv => ?_
      refine k B σ H1 Hf1 ρ1 _ r2 _ s1 e2 fun v2 H2 Hf2 s2 t2 rv2 => ?_
      rw [hd] at rv
      rw [hd2] at rv2
      cases rv
      cases rv2
      have c := okRg_c c
      exact ⟨a, b, rfl, ⟨c.1, c.2.1, c.2.2.1, c.2.2.2.1⟩, q _ H2 Hf2 s2 (t1.trans t2) (walk_rg a b) (by rw [rgD_len, sizeLine_eq]; have := c.2.2.2.2; omega)⟩
    · cases e
  · cases e
theorem enumD_get : ∀ (ds : List PyData) (k i : Nat), (enumD k ds)[i]? = (ds[i]?).map fun d => .tuple [.int ((k + i : Nat) : Int), d]
  | [], _, _ => by simp [enumD]
  | d :: r, k, 0 => by simp [enumD]
  | d :: r, k, i + 1 => by
    rw [enumD, List.getElem?_cons_succ, List.getElem?_cons_succ, enumD_get r (k + 1) i]
    have e : k + 1 + i = k + (i + 1) := by omega
    rw [e]
theorem enumD_len : ∀ (ds : List PyData) (k : Nat), (enumD k ds).length = ds.length
  | [], _ => rfl
  | d :: r, k => by rw [enumD, List.length_cons, enumD_len r, List.length_cons]
theorem zipD_get : ∀ (xs ys : List PyData) (i : Nat) (x y : PyData), xs[i]? = some x → ys[i]? = some y → (zipD xs ys)[i]? = some (.tuple [x, y])
  | [], _, _, _, _, h, _ => by simp at h
  | _ :: _, [], _, _, _, _, h => by simp at h
  | a :: r, b :: s, 0, x, y, h, k => by simp at h k; subst h k; rfl
  | a :: r, b :: s, i + 1, x, y, h, k => by
    rw [zipD, List.getElem?_cons_succ]
    exact zipD_get r s i x y (by simpa using h) (by simpa using k)
theorem zipD_len : ∀ (xs ys : List PyData), (zipD xs ys).length = min xs.length ys.length
  | [], _ => by simp [zipD]
  | _ :: _, [] => by simp [zipD]
  | a :: r, b :: s => by rw [zipD, List.length_cons, zipD_len r s, List.length_cons, List.length_cons]; omega
theorem walk_P {K : Fg} {Hf : Hp} {G : Hp → Prop} {n : Nat} {its : Nat → List V} {items : List PyData} (hn : n = items.length) (hg : ∀ H, Same Hf H → G H) (hi : ∀ i, i < n → ∃ ds, items[i]? = some (.tuple ds) ∧ RpAll K Hf (its i) ds ∧ (its i).length ≤ sizeLine) : WalkD K Hf (ItP G n its) items := by
  subst hn
  refine ⟨fun i H h s => ⟨hg H s, h⟩, fun H s => ⟨hg H s, rfl⟩, fun i H x H' h s y => ?_⟩
  obtain ⟨T, rfl, hT, rfl⟩ := y
  obtain ⟨ds, e, r, z⟩ := hi i h
  exact ⟨_, e, fun Hf2 a b => pp_tup b hT z (r.mono a)⟩
theorem sq_x {K : Fg} {H : Hp} {a : Addr} {ys : List V} (h : SqL K H a ys ∨ SqT K H a ys) : ∃ l, SqX l K H a ys := h.elim (fun z => ⟨true, z⟩) (fun z => ⟨false, z⟩)
theorem sqx_same {l : Bool} {K : Fg} {H H' : Hp} {a : Addr} {ys : List V} (s : Same H H') (h : SqX l K H a ys) : SqX l K H' a ys := by
  cases l with
  | true => exact s.seq h
  | false => exact same_sqT s h
theorem sndI_enum {elts : List Expr} {kk : Nat} {tpos : Pos} {e : Expr} {c : E} {p pos : Pos} (g : Gl X "enumerate") (m : X.mg "enumerate" = none) (hs : noStar e = true) (h : SndE X e (evE φ c)) : SndI X (.Tuple elts kk tpos) (.Call (.Name "enumerate" p) [e] [] pos) (evI φ (.enum c)) := by
  obtain ⟨te, p1, h⟩ := h.dt
  refine ⟨_, pi_enX g m (pa_cons p1 pa_nil (starEach_no hs)) (by rw [starEach_no hs]; rfl), fun B σ H Hf ρ ρ' items R s e q => ?_⟩
  simp only [evI] at e
  obtain ⟨⟨r, ρ1⟩, e1, e⟩ := bindE e
  rw [Option.map_eq_some_iff] at e
  obtain ⟨xs, e2, e3⟩ := e
  cases e3
  refine h B σ H Hf ρ _ r _ s e1 fun v H1 Hf1 s1 t1 rv => ?_
  obtain ⟨a, ys, rfl, hy, hz, ry⟩ := RpSeq rv e2
  obtain ⟨l, hx⟩ := sq_x hy
  refine ⟨l, a, ys, rfl, sqx_same s1.sub hx, q _ H1 Hf1 s1 t1 (walk_P (by rw [enumD_len, ry.length]) (fun H z => sqx_same z hx) fun i hi => ?_) (by rw [enumD_len, ← ry.length]; exact hz)⟩
  have hd : i < xs.length := by rw [← ry.length]; exact hi
  obtain ⟨v, k1, k2⟩ := ry.get (List.getElem?_eq_getElem hd)
  refine ⟨[.int ((0 + i : Nat) : Int), xs[i]], by rw [enumD_get, List.getElem?_eq_getElem hd]; rfl, ?_, (by decide : 2 ≤ sizeLine)⟩
  unfold enIts
  rw [k1, Nat.zero_add]
  exact .cons (.int _) (.cons k2 .nil)
theorem sndI_zip {elts : List Expr} {kk : Nat} {tpos : Pos} {e f : Expr} {c d : E} {p pos : Pos} (g : Gl X "zip") (m : X.mg "zip" = none) (hs : noStar e = true) (hs2 : noStar f = true) (h : SndE X e (evE φ c)) (k : SndE X f (evE φ d)) :
    SndI X (.Tuple elts kk tpos) (.Call (.Name "zip" p) [e, f] [] pos) (evI φ (.zip c d)) := by
  obtain ⟨te, p1, h⟩ := h.dt
  obtain ⟨tf, p2, k⟩ := k.dt
  refine ⟨_, pi_zpX g m (pa_cons p1 (pa_cons p2 pa_nil (starEach_no hs2)) (starEach_no hs)) (by rw [starEach_no hs, starEach_no hs2]; rfl) (by rw [starEach_no hs2]; rfl), fun B σ H Hf ρ ρ' items R s e q => ?_⟩
  simp only [evI] at e
  obtain ⟨⟨r, ρ1⟩, e1, e⟩ := bindE e
  obtain ⟨⟨r2, ρ2⟩, e2, e⟩ := bindE e
  obtain ⟨xs, e3, e⟩ := bindE e
  rw [Option.map_eq_some_iff] at e
  obtain ⟨zs, e4, e5⟩ := e
  cases e5
  refine h B σ H Hf ρ _ r _ s e1 fun v H1 Hf1 s1 t1 rv => ?_
  refine k B σ H1 Hf1 ρ1 _ r2 _ s1 e2 fun v2 H2 Hf2 s2 t2 rv2 => ?_
  obtain ⟨a, ys, rfl, hy, hz, ry⟩ := RpSeq (rv.mono t2.fz) e3
  obtain ⟨b, ws, rfl, hw, hz2, rw2⟩ := RpSeq rv2 e4
  obtain ⟨l, hx⟩ := sq_x hy
  obtain ⟨l2, hx2⟩ := sq_x hw
  refine ⟨l, l2, a, b, ys, ws, rfl, sqx_same s2.sub hx, sqx_same s2.sub hx2, q _ H2 Hf2 s2 (t1.trans t2) (walk_P (by rw [zipD_len, ry.length, rw2.length]) (fun H z => ⟨sqx_same z hx, sqx_same z hx2⟩) fun i hi => ?_) (by rw [zipD_len, ← ry.length]; omega)⟩
  have hd : i < xs.length := by rw [← ry.length]; omega
  have hd2 : i < zs.length := by rw [← rw2.length]; omega
  obtain ⟨v, k1, k2⟩ := ry.get (List.getElem?_eq_getElem hd)
  obtain ⟨v2, k3, k4⟩ := rw2.get (List.getElem?_eq_getElem hd2)
  refine ⟨[xs[i], zs[i]], zipD_get xs zs i _ _ (List.getElem?_eq_getElem hd) (List.getElem?_eq_getElem hd2), ?_, (by decide : 2 ≤ sizeLine)⟩
  unfold zpIts
  rw [k1, k3]
  exact .cons k2 (.cons k4 .nil)
end
end LI

set_option Elab.async false
set_option linter.all false
set_option autoImplicit false
set_option maxRecDepth 100000
set_option maxHeartbeats 4000000
namespace LI
open PySem PySem.Spec PyProof.Rows L2
/-! ### wiping and restoring -/
theorem wipeR_len (r : Rho) : ∀ vs : List Nat, (wipeR r vs).length = r.length
  | [] => rfl
  | v :: vs => by rw [wipeR, List.length_set, wipeR_len r vs]
theorem wipeR_some {r : Rho} {i : Nat} {x : SV} : ∀ {vs : List Nat}, (wipeR r vs)[i]? = some (some x) → i ∉ vs ∧ r[i]? = some (some x)
  | [], h => ⟨by simp, h⟩
  | v :: vs, h => by
    rw [wipeR] at h
    rcases set_get h with ⟨_, z, _⟩ | ⟨n, h⟩
    · cases z
    · obtain ⟨h1, h2⟩ := wipeR_some h
      exact ⟨fun m => (List.mem_cons.mp m).elim (fun z => n z.symm) h1, h2⟩
theorem wipeR_out {r : Rho} {i : Nat} : ∀ {vs : List Nat}, i ∉ vs → (wipeR r vs)[i]? = r[i]?
  | [], _ => rfl
  | v :: vs, h => by
    have h1 : v ≠ i := fun e => h (by rw [e]; exact List.mem_cons_self)
    rw [wipeR, List.getElem?_set_ne h1]
    exact wipeR_out fun m => h (List.mem_cons_of_mem _ m)
theorem restR_len (r0 r : Rho) : ∀ vs : List Nat, (restR r0 r vs).length = r.length
  | [] => rfl
  | v :: vs => by rw [restR, List.length_set, restR_len r0 r vs]
theorem restR_out {r0 r : Rho} {i : Nat} : ∀ {vs : List Nat}, i ∉ vs → (restR r0 r vs)[i]? = r[i]?
  | [], _ => rfl
  | v :: vs, h => by
    have h1 : v ≠ i := fun e => h (by rw [e]; exact List.mem_cons_self)
    rw [restR, List.getElem?_set_ne h1]
    exact restR_out fun m => h (List.mem_cons_of_mem _ m)
theorem restR_in {r0 r : Rho} {i : Nat} {x : SV} : ∀ {vs : List Nat}, i ∈ vs → (restR r0 r vs)[i]? = some (some x) → r0[i]? = some (some x)
  | [], h, _ => by simp at h
  | v :: vs, h, e => by
    rw [restR] at e
    rcases set_get e with ⟨z, y, _⟩ | ⟨n, e⟩
    · rw [z] at y
      cases q : r0[i]? with
      | none => rw [q] at y; cases y
      | some u => rw [q] at y; simp at y; rw [y]
    · exact restR_in ((List.mem_cons.mp h).elim (fun z => absurd z.symm n) id) e
theorem owns_wipe {σ : Sg} {ρ : Rho} {vs : List Nat} {a : Addr} (h : Owns (wipe σ vs) (wipeR ρ vs) a) : ∃ (i : Nat) (t : Option Nat) (d : PyData), i ∉ vs ∧ ρ[i]? = some (some (.own t d)) ∧ σ[i]? = some (some (.ref a)) := by
  obtain ⟨i, t, d, h1, h2⟩ := h
  obtain ⟨n, h1⟩ := wipeR_some h1
  rw [wipe_out n] at h2
  exact ⟨i, t, d, n, h1, h2⟩
theorem SRel.wipe {K : Fg} {B : List V} {σ : Sg} {H Hf : Hp} {ρ : Rho} (s : SRel K B σ H Hf ρ) (vs : List Nat) : SRel K B (L2.wipe σ vs) H Hf (wipeR ρ vs) := by
  refine ⟨s.sub, by rw [wipeR_len, wipe_length]; exact s.len, fun i d e => ?_, fun i t d e => ?_, fun i j t u d e a h1 h2 h3 h4 => ?_⟩
  · obtain ⟨n, e⟩ := wipeR_some e
    rw [wipe_out n]; exact s.dat i d e
  · obtain ⟨n, e⟩ := wipeR_some e
    rw [wipe_out n]; exact s.own i t d e
  · obtain ⟨n1, h1⟩ := wipeR_some h1
    obtain ⟨n2, h2⟩ := wipeR_some h2
    rw [wipe_out n1] at h3
    rw [wipe_out n2] at h4
    exact s.dis i j t u d e a h1 h2 h3 h4
theorem Step.wipe {σ : Sg} {ρ : Rho} {H Hf : Hp} (vs : List Nat) : Step σ ρ H Hf (L2.wipe σ vs) (wipeR ρ vs) H Hf :=
  ⟨Same.refl _, fun _ _ h _ => h, fun _ h => .inl h, fun a h => by obtain ⟨i, t, d, _, h1, h2⟩ := owns_wipe h; exact .inl ⟨i, t, d, h1, h2⟩⟩
theorem rest_ok {K : Fg} {B : List V} {σ : Sg} {H1 Hf1 H Hf : Hp} {ρ1 ρ : Rho} {vs : List Nat} (s1 : SRel K B σ H1 Hf1 ρ1) (s : SRel K B (wipe σ vs) H Hf (wipeR ρ vs)) (t : Step (wipe σ vs) (wipeR ρ1 vs) H1 Hf1 (wipe σ vs) (wipeR ρ vs) H Hf) :
    SRel K B σ H Hf (restR ρ1 ρ vs) ∧ Step σ ρ1 H1 Hf1 σ (restR ρ1 ρ vs) H Hf := by
  have lost : ∀ i u d a, i ∈ vs → ρ1[i]? = some (some (.own u d)) → σ[i]? = some (some (.ref a)) → ¬ Owns (wipe σ vs) (wipeR ρ1 vs) a := by
    intro i u d a hi h1 h2 h
    obtain ⟨j, t', d', n, k1, k2⟩ := owns_wipe h
    exact n (by rw [← s1.dis i j u t' d d' a h1 k1 h2 k2]; exact hi)
  have sp : ∀ i x, (restR ρ1 ρ vs)[i]? = some (some x) → (i ∈ vs ∧ ρ1[i]? = some (some x)) ∨ (i ∉ vs ∧ (wipeR ρ vs)[i]? = some (some x)) := by
    intro i x h
    by_cases z : i ∈ vs
    · exact .inl ⟨z, restR_in z h⟩
    · rw [restR_out z] at h
      exact .inr ⟨z, by rw [wipeR_out z]; exact h⟩
  have ow : ∀ a, Owns (wipe σ vs) (wipeR ρ1 vs) a → Owns σ ρ1 a := fun a h => by
    obtain ⟨i, t, d, _, h1, h2⟩ := owns_wipe h
    exact ⟨i, t, d, h1, h2⟩
  refine ⟨⟨s.sub, ?_, fun i d e => ?_, fun i u d e => ?_, fun i j u u' d e a h1 h2 h3 h4 => ?_⟩, ⟨t.fz, fun a o h n => t.keep a o h fun z => n (ow a z), fun a h => ?_, fun a h => ?_⟩⟩
  · rw [restR_len, ← wipeR_len ρ vs, s.len, wipe_length]
  · rcases sp i _ e with ⟨_, e⟩ | ⟨n, e⟩
    · obtain ⟨v, k1, k2⟩ := s1.dat i d e
      exact ⟨v, k1, k2.mono t.fz⟩
    · obtain ⟨v, k1, k2⟩ := s.dat i d e
      rw [wipe_out n] at k1
      exact ⟨v, k1, k2⟩
  · rcases sp i _ e with ⟨m, e⟩ | ⟨n, e⟩
    · obtain ⟨a, o, k1, k2, k3, k4, k5⟩ := s1.own i u d e
      have nl := lost i u d a m e k1
      refine ⟨a, o, k1, t.keep a o k2 nl, ?_, k4.mono t.fz, k5⟩
      cases q : Hf a with
      | none => rfl
      | some w =>
        rcases t.new a (by rw [q]; exact fun z => nomatch z) with z | z | z
        · exact absurd k3 z
        · rw [k2] at z; cases z
        · exact absurd z nl
    · obtain ⟨a, o, k1, k⟩ := s.own i u d e
      rw [wipe_out n] at k1
      exact ⟨a, o, k1, k⟩
  · have mix : ∀ i j u u' d e, i ∈ vs → ρ1[i]? = some (some (.own u d)) → j ∉ vs → (wipeR ρ vs)[j]? = some (some (.own u' e)) → σ[i]? = some (some (.ref a)) → σ[j]? = some (some (.ref a)) → False := by
      intro i j u u' d e m k1 n k2 k3 k4
      rcases t.own a ⟨j, u', e, k2, by rw [wipe_out n]; exact k4⟩ with z | z
      · exact lost i u d a m k1 k3 z
      · obtain ⟨b, o, q1, q2, _⟩ := s1.own i u d k1
        rw [k3] at q1; cases q1
        rw [q2] at z; cases z
    rcases sp i _ h1 with ⟨m1, h1⟩ | ⟨n1, h1⟩
    · rcases sp j _ h2 with ⟨m2, h2⟩ | ⟨n2, h2⟩
      · exact s1.dis i j u u' d e a h1 h2 h3 h4
      · exact (mix i j u u' d e m1 h1 n2 h2 h3 h4).elim
    · rcases sp j _ h2 with ⟨m2, h2⟩ | ⟨n2, h2⟩
      · exact (mix j i u' u e d m2 h2 n1 h1 h4 h3).elim
      · exact s.dis i j u u' d e a h1 h2 (by rw [wipe_out n1]; exact h3) (by rw [wipe_out n2]; exact h4)
  · rcases t.new a h with z | z | z
    · exact .inl z
    · exact .inr (.inl z)
    · exact .inr (.inr (ow a z))
  · obtain ⟨i, u, d, h1, h2⟩ := h
    rcases sp i _ h1 with ⟨m, h1⟩ | ⟨n, h1⟩
    · exact .inl ⟨i, u, d, h1, h2⟩
    · rcases t.own a ⟨i, u, d, h1, by rw [wipe_out n]; exact h2⟩ with z | z
      · exact .inl (ow a z)
      · exact .inr z
/-! ### a cell that nobody knows -/
theorem SRel.upd {K : Fg} {B : List V} {σ : Sg} {H Hf : Hp} {ρ : Rho} {D : Addr} {o : HO} (s : SRel K B σ H Hf ρ) (n : Hf D = none) (no : ¬ Owns σ ρ D) : SRel K B σ (L2.upd H D o) Hf ρ := by
  refine ⟨fun a u e => ?_, s.len, s.dat, fun i t d e => ?_, s.dis⟩
  · rw [upd_ne (ne_of_none e n)]; exact s.sub a u e
  · obtain ⟨a, u, k1, k2, k⟩ := s.own i t d e
    exact ⟨a, u, k1, by rw [upd_ne fun z => no ⟨i, t, d, e, by rw [← z]; exact k1⟩]; exact k2, k⟩
theorem Step.upd {σ0 σ : Sg} {ρ0 ρ : Rho} {H0 Hf0 H Hf : Hp} {D : Addr} {o : HO} (t : Step σ0 ρ0 H0 Hf0 σ ρ H Hf) (n : H0 D = none) : Step σ0 ρ0 H0 Hf0 σ ρ (L2.upd H D o) Hf :=
  ⟨t.fz, fun a u h no => by rw [upd_ne (ne_of_none h n)]; exact t.keep a u h no, t.new, t.own⟩
/-- the list that a comprehension fills -/
structure LcJ (K : Fg) (B : List V) (σs : Sg) (ρs : Rho) (H1 Hf1 : Hp) (D : Addr) (σ : Sg) (ρ : Rho) (acc : List PyData) (H : Hp) (Hf : Hp) (xs : List V) : Prop where
  s : SRel K B σ H Hf ρ
  t : Step σs ρs H1 Hf1 σ ρ H Hf
  at_ : H D = some (.lst xs)
  nf : Hf D = none
  no : ¬ Owns σ ρ D
  rp : RpAll K Hf xs acc
abbrev LcI (K : Fg) (B : List V) (σ : Sg) (vs : List Nat) (ρ1 : Rho) (H1 Hf1 : Hp) (D : Addr) (ρi : Rho) (acc : List PyData) (H : Hp) (Hf : Hp) (xs : List V) : Prop := LcJ K B (wipe σ vs) (wipeR ρ1 vs) H1 Hf1 D (wipe σ vs) (wipeR ρi vs) acc H Hf xs
/-- what a turn leaves of it -/
theorem LcJ.next {K : Fg} {B : List V} {σs σ σ2 : Sg} {ρs ρ ρ2 : Rho} {H1 Hf1 H Hf H2 Hf2 : Hp} {D : Addr} {acc : List PyData} {xs : List V} (I : LcJ K B σs ρs H1 Hf1 D σ ρ acc H Hf xs) (s3 : SRel K B σ2 H2 Hf2 ρ2) (t3 : Step σ ρ H Hf σ2 ρ2 H2 Hf2) :
    LcJ K B σs ρs H1 Hf1 D σ2 ρ2 acc H2 Hf2 xs := by
  refine ⟨s3, I.t.trans t3, t3.keep D _ I.at_ I.no, ?_, fun z => ?_, I.rp.mono t3.fz⟩
  · cases q : Hf2 D with
    | none => rfl
    | some w =>
      rcases t3.new D (by rw [q]; exact fun z => nomatch z) with z | z | z
      · exact absurd I.nf z
      · rw [I.at_] at z; cases z
      · exact absurd z I.no
  · rcases t3.own D z with z | z
    · exact I.no z
    · rw [I.at_] at z; cases z
theorem LcJ.wipe {K : Fg} {B : List V} {σs σ : Sg} {ρs ρ : Rho} {H1 Hf1 H Hf : Hp} {D : Addr} {acc : List PyData} {xs : List V} (I : LcJ K B σs ρs H1 Hf1 D σ ρ acc H Hf xs) (vs : List Nat) : LcJ K B σs ρs H1 Hf1 D (L2.wipe σ vs) (wipeR ρ vs) acc H Hf xs := I.next (I.s.wipe vs) (Step.wipe vs)
theorem LcJ.push {K : Fg} {B : List V} {σs σ : Sg} {ρs ρ : Rho} {H1 Hf1 H Hf : Hp} {D : Addr} {acc : List PyData} {xs : List V} {v : V} {d : PyData} (I : LcJ K B σs ρs H1 Hf1 D σ ρ acc H Hf xs) (n : H1 D = none) (r : Rp K Hf v d) :
    LcJ K B σs ρs H1 Hf1 D σ ρ (acc ++ [d]) (upd H D (.lst (xs ++ [v]))) Hf (xs ++ [v]) :=
  ⟨I.s.upd I.nf I.no, I.t.upd n, upd_same, I.nf, I.no, I.rp.app (.cons r .nil)⟩
theorem lcI_start {K : Fg} {B : List V} {σ : Sg} {vs : List Nat} {ρ1 : Rho} {H1 Hf1 : Hp} {D : Addr} (s : SRel K B σ H1 Hf1 ρ1) (n : H1 D = none) : LcI K B σ vs ρ1 H1 Hf1 D ρ1 [] (upd H1 D (.lst [])) Hf1 [] := by
  have s' := s.wipe vs
  have no : ¬ Owns (wipe σ vs) (wipeR ρ1 vs) D := by
    rintro ⟨i, t, d, h1, h2⟩
    obtain ⟨a, o, k1, k2, _⟩ := s'.own i t d h1
    rw [h2] at k1; cases k1
    rw [n] at k2; cases k2
  exact ⟨s'.upd (s.sub.free n) no, Step.refl.upd n, upd_same, s.sub.free n, no, .nil⟩
theorem wipe_eq {σ σ' : Sg} {vs : List Nat} (hl : σ'.length = σ.length) (h : ∀ j, j ∉ vs → σ'[j]? = (wipe σ vs)[j]?) : wipe σ' vs = wipe σ vs := by
  refine List.ext_getElem? fun i => ?_
  by_cases z : i ∈ vs
  · have key : ∀ (τ : Sg), (wipe τ vs)[i]? = if i < τ.length then some none else none := by
      intro τ
      by_cases hi : i < τ.length
      · rw [if_pos hi]
        cases q : (wipe τ vs)[i]? with
        | none => rw [List.getElem?_eq_none_iff, wipe_length] at q; omega
        | some u =>
          cases u with
          | none => rfl
          | some v => exact absurd z (wipe_some q).2
      · rw [if_neg hi, List.getElem?_eq_none_iff, wipe_length]; omega
    rw [key, key, hl]
  · rw [wipe_out z, h i z]
section
variable {X : Cx} {φ : Fn}
def TTok (K : Fg) (tt : TT) (evc : Rho → Option (Bool × Rho)) : Prop := ∀ (B : List V) (σ : Sg) (H Hf : Hp) (ρ ρ' : Rho) (r : Bool) (Q : Bool → Hp → Prop), SRel K B σ H Hf ρ → evc ρ = some (r, ρ') →
    (∀ H' Hf', SRel K B σ H' Hf' ρ' → Step σ ρ H Hf σ ρ' H' Hf' → Q r H') → tt σ H Q
def lcF (φ : Fn) (elt : E) (tg : T) (evc : Rho → Option (Bool × Rho)) : PyData → Rho → Option (Option PyData × Rho) := fun x r1 => (setT tg x r1).bind fun r2 => (evc r2).bind fun q => if q.1 then (evE φ elt q.2).map fun y => (some y.1.d, y.2) else some (none, q.2)
theorem lc_loop {K : Fg} {B : List V} {σ : Sg} {vs is : List Nat} {ρ1 ρe : Rho} {H1 Hf1 : Hp} {D : Addr} {J : L2.It} {items out : List PyData} {elt : E} {tg : T} {tt : TT} {evc : Rho → Option (Bool × Rho)} {Qd : Hp → Prop}
    (w : WalkD K Hf1 J items) (hz : items.length ≤ sizeLine) (s1 : SRel K B σ H1 Hf1 ρ1) (hD : H1 D = none) (his : ∀ i ∈ is, i ∈ vs) (htt : TTok K tt evc) (he : loopLc (lcF φ elt tg evc) vs items [] ρ1 = some (out, ρe))
    (hd : ∀ H Hf xs, LcI K B σ vs ρ1 H1 Hf1 D ρe out H Hf xs → xs.length ≤ sizeLine → Qd H) :
    ∃ W : Nat → Nat → Hp → Prop, (∃ m, W 0 m (upd H1 D (.lst []))) ∧ ∀ i m H, W i m H →
      (J.stop i H ∧ Qd H) ∨ (J.go i H ∧ ∃ Nx : Hp → Prop, (∀ H', Nx H' → ∃ m', m' < m ∧ W (i + 1) m' H') ∧ ∀ x H', J.yld i H x H' → tgS K (setT tg) is x (wipe σ vs) H' fun σ2 H2 => wipe σ2 vs = wipe σ vs ∧ tt σ2 H2 fun b H3 =>
        if b = true then teS K (evE φ elt) σ2 H3 fun y H4 => ∃ acc, H4 D = some (.lst acc) ∧ acc.length < sizeLine ∧ Nx (upd H4 D (.lst (acc ++ [y]))) else Nx H3) := by
  refine lc_it (w.mono (G' := fun H => Same Hf1 H) (fun _ h => h) (fun _ _ _ _ _ _ y => y)) (fun i H => ∃ ρi acc Hf xs, LcI K B σ vs ρ1 H1 Hf1 D ρi acc H Hf xs ∧ xs.length ≤ i ∧ loopLc (lcF φ elt tg evc) vs (items.drop i) acc ρi = some (out, ρe)) ⟨ρ1, [], Hf1, [], lcI_start s1 hD, Nat.le_refl _, he⟩ (fun i H _ ⟨ρi, acc, Hf, xs, I, _⟩ => I.t.fz.trans I.s.sub) (fun i x H H' hi ⟨ρi, acc, Hf, xs, I, hx, el⟩ y => ?_) (fun H ⟨ρi, acc, Hf, xs, I, hx, el⟩ => ?_)
  · obtain ⟨d, hd', yp⟩ := y
    obtain ⟨Hf', s', t', r'⟩ := ppost I.s (yp Hf I.t.fz I.s.sub)
    have r' : Rp K Hf' x d := r'
    rw [List.drop_eq_getElem_cons hi] at el
    have ed : items[i] = d := by rw [List.getElem?_eq_getElem hi] at hd'; cases hd'; rfl
    rw [ed] at el
    simp only [loopLc] at el
    obtain ⟨⟨o, ρ4⟩, e1, el⟩ := bindE el
    simp only [lcF] at e1
    obtain ⟨ρ2, e2, e1⟩ := bindE e1
    obtain ⟨⟨b, ρ3⟩, e3, e1⟩ := bindE e1
    refine ⟨B, Hf', wipeR ρi vs, ρ2, d, s', r', e2, fun σ2 s2 t2 w2 l2 => ⟨?_, ?_⟩⟩
    · exact wipe_eq (l2.trans (wipe_length _ _)) fun j hj => w2 j fun z => hj (his j z)
    · have hw : wipe σ2 vs = wipe σ vs := wipe_eq (l2.trans (wipe_length _ _)) fun j hj => w2 j fun z => hj (his j z)
      refine htt B σ2 H' Hf' ρ2 ρ3 b _ s2 e3 fun H3 Hf3 s3 t3 => ?_
      cases b with
      | false =>
        simp only [Bool.false_eq_true, if_false] at e1 ⊢
        cases e1
        exact ⟨_, acc, Hf3, xs, (by have z := (I.next s3 ((t'.trans t2).trans t3)).wipe vs; rw [hw] at z; exact z), Nat.le_succ_of_le hx, el⟩
      | true =>
        simp only [if_true] at e1 ⊢
        rw [Option.map_eq_some_iff] at e1
        obtain ⟨⟨r, ρ5⟩, e4, e5⟩ := e1
        cases e5
        refine ⟨B, Hf3, ρ3, _, r, s3, e4, fun v H4 Hf4 s4 t4 rv => ?_⟩
        obtain ⟨Hf5, s5, t5, rv5⟩ := frz s4 t4 rv
        have I5 := (I.next s5 (((t'.trans t2).trans t3).trans t5)).wipe vs
        rw [hw] at I5
        exact ⟨xs, I5.at_, Nat.lt_of_le_of_lt hx (Nat.lt_of_lt_of_le hi hz), _, _, Hf5, _, I5.push hD rv5, by rw [List.length_append]; exact Nat.succ_le_succ hx, el⟩
  · rw [List.drop_length] at el
    simp only [loopLc] at el
    cases el
    exact hd H Hf xs I (Nat.le_trans hx hz)
/-- the end of one -/
theorem lc_end {K : Fg} {B : List V} {σ : Sg} {vs : List Nat} {ρ ρ1 ρe : Rho} {H0 Hf0 H1 Hf1 H Hf : Hp} {D : Addr} {out : List PyData} {xs : List V} (t : Step σ ρ H0 Hf0 σ ρ1 H1 Hf1) (s1 : SRel K B σ H1 Hf1 ρ1) (hD : H1 D = none) (I : LcI K B σ vs ρ1 H1 Hf1 D ρe out H Hf xs) (hz : xs.length ≤ sizeLine) :
    SRel K B σ H Hf (restR ρ1 ρe vs) ∧ Step σ ρ H0 Hf0 σ (restR ρ1 ρe vs) H Hf ∧ RpV K σ ρ H0 σ (restR ρ1 ρe vs) H Hf (.ref D) (.own none (.list out)) := by
  obtain ⟨a, b⟩ := rest_ok s1 I.s I.t
  refine ⟨a, t.trans b, RpV.back t ⟨D, .lst xs, rfl, I.at_, I.nf, ⟨xs, out, rfl, rfl, hz, I.rp⟩, fun z => ?_, .inl hD⟩⟩
  obtain ⟨i, u, d, h1, h2⟩ := z
  by_cases z : i ∈ vs
  · have h1 := restR_in z h1
    obtain ⟨c, o, k1, k2, _⟩ := s1.own i u d h1
    rw [h2] at k1; cases k1
    rw [hD] at k2; cases k2
  · rw [restR_out z] at h1
    exact I.no ⟨i, u, d, by rw [wipeR_out z]; exact h1, by rw [wipe_out z]; exact h2⟩
end
end LI

set_option Elab.async false
set_option linter.all false
set_option autoImplicit false
set_option maxRecDepth 100000
set_option maxHeartbeats 4000000
namespace LI
open PySem PySem.Spec PyProof.Rows L2
section
variable {X : Cx} {φ : Fn}
/-! ### comprehensions -/
/-- a clause's tests, read by the evaluator -/
def SndC (X : Cx) (ifs : List Expr) (c : Option E) (φ : Fn) : Prop := match ifs, c with
  | [], none => True
  | [e], some c => SndT X e (evT φ c)
  | _, _ => False
def ttC (K : Fg) (φ : Fn) : Option E → TT
  | none => tYes
  | some c => ttS K (evT φ c)
theorem SndC.pts {ifs : List Expr} {c : Option E} (h : SndC X ifs c φ) : PTs X ifs (ttC X.K φ c) := by
  match ifs, c, h with
  | [], none, _ => exact pts_nil
  | [e], some c, h => exact pts_one (SndT.pt h)
theorem ttC_ok {K : Fg} {c : Option E} : TTok K (ttC K φ c) (evC φ c) := by
  cases c with
  | none =>
    intro B σ H Hf ρ ρ' r Q s e q
    simp only [evC] at e
    cases e
    exact q H Hf s Step.refl
  | some c =>
    intro B σ H Hf ρ ρ' r Q s e q
    exact ⟨B, Hf, ρ, ρ', r, s, e, q⟩
abbrev Blk (X : Cx) (scope : Scope) (P : Cx → Prop) : Prop := ∀ (s : Shared) (H : Hp) (C : Addr) (cl : List (Str × Addr)) (fp : List Addr), P (X.blk s H scope (compEnvC scope cl C X.env) fp)
theorem lc_sem {tg iter : Expr} {vs is : List Nat} {it : It} {t : T} {c : Option E} {el : E} {wi : TI}
    (hi : ∀ (B : List V) (σ : Sg) (H Hf : Hp) (ρ ρ' : Rho) (items : List PyData) (R : L2.It → Hp → Prop), SRel X.K B σ H Hf ρ → evI φ it ρ = some (items, ρ') → (∀ J H' Hf', SRel X.K B σ H' Hf' ρ' → Step σ ρ H Hf σ ρ' H' Hf' → WalkD X.K Hf' J items → items.length ≤ sizeLine → R J H') → wi σ H R)
    (his : ∀ i ∈ is, i ∈ vs) (B : List V) (σ : Sg) (H Hf : Hp) (ρ ρ' : Rho) (r : SV) (Q : VK) (s : SRel X.K B σ H Hf ρ) (e : evE φ (.lc el t it c vs) ρ = some (r, ρ'))
    (q : ∀ v H' Hf', SRel X.K B σ H' Hf' ρ' → Step σ ρ H Hf σ ρ' H' Hf' → RpV X.K σ ρ H σ ρ' H' Hf' v r → Q v H') : tLc wi (tgS X.K (setT t) is) (ttC X.K φ c) (teS X.K (evE φ el)) vs σ H Q := by
  simp only [evE] at e
  obtain ⟨⟨items, ρ1⟩, e1, e⟩ := bindE e
  rw [Option.map_eq_some_iff] at e
  obtain ⟨⟨out, ρe⟩, e2, e⟩ := e
  cases e
  refine hi B σ H Hf ρ ρ1 items _ s e1 fun J H1 Hf1 s1 t1 w hz D hD => ?_
  exact lc_loop (φ := φ) (elt := el) (tg := t) (is := is) w hz s1 hD his ttC_ok e2 fun H2 Hf2 xs I hx => by
    obtain ⟨a, b, c⟩ := lc_end t1 s1 hD I hx
    exact q _ H2 Hf2 a b c
theorem snd_lc {elt tg iter : Expr} {ifs : List Expr} {scope : Scope} {own : List (Str × Nat)} {pos : Pos} {it : It} {t : T} {c : Option E} {el : E} {is : List Nat} (hc : X.calm = true) (hN : X.N.Nodup) (hi : SndI X tg iter (evI φ it)) (ok : BlkOk X.N X.env.scope scope own) (his : ∀ i ∈ is, i ∈ own.map (·.2))
    (hg : Blk X scope fun Y => SndG Y tg (setT t) is) (ht : Blk X scope fun Y => SndC Y ifs c φ) (he : Blk X scope fun Y => SndE Y elt (evE φ el)) (hs : ∀ x, foldedSetIterable iter X.env x = pure x) :
    SndE X (.ListComp elt [⟨tg, iter, ifs, 0⟩] scope pos) (evE φ (.lc el t it c (own.map (·.2)))) := by
  obtain ⟨wi, pi, hi⟩ := hi
  exact ⟨_, pe_lc (g := tgS X.K (setT t) is) (tt := ttC X.K φ c) (te := teS X.K (evE φ el)) hc hN pi ok (fun s H C cl fp => hg s H C cl fp) (fun s H C cl fp => (ht s H C cl fp).pts) (fun s H C cl fp => (he s H C cl fp).pe) hs, lc_sem (tg := tg) (iter := iter) hi his⟩
/-! ### two clauses -/
theorem in_it {J : L2.It} {n : Nat} {G : Hp → Prop} {Y : Nat → Hp → V → Hp → Prop} (w : Walk J n G Y) {g : TG} {tt : TT} {te : TE} {vs : List Nat} {σ : Sg} {H1 : Hp} {D : Addr} {Qd : Hp → Prop} (Pv : Nat → Hp → Prop) (h0 : Pv 0 H1) (hG : ∀ i H, i ≤ n → Pv i H → G H)
    (hs : ∀ i x H H', i < n → Pv i H → Y i H x H' → g x (wipe σ vs) H' fun σ2 H2 => wipe σ2 vs = wipe σ vs ∧ tt σ2 H2 fun b H3 =>
      if b = true then te σ2 H3 fun y H4 => ∃ acc, H4 D = some (.lst acc) ∧ acc.length < sizeLine ∧ Pv (i + 1) (upd H4 D (.lst (acc ++ [y]))) else Pv (i + 1) H3) (hd : ∀ H, Pv n H → Qd H) :
    ∃ W : Nat → Nat → Hp → Prop, (∃ m, W 0 m H1) ∧ ∀ i m H, W i m H →
      (J.stop i H ∧ Qd H) ∨ (J.go i H ∧ ∃ Nx : Hp → Prop, (∀ H', Nx H' → ∃ m', m' < m ∧ W (i + 1) m' H') ∧ ∀ x H', J.yld i H x H' → g x (wipe σ vs) H' fun σ2 H2 => wipe σ2 vs = wipe σ vs ∧ tt σ2 H2 fun b H3 =>
        if b = true then te σ2 H3 fun y H4 => ∃ acc, H4 D = some (.lst acc) ∧ acc.length < sizeLine ∧ Nx (upd H4 D (.lst (acc ++ [y]))) else Nx H3) := by
  refine ⟨fun i m H => m = n - i ∧ i ≤ n ∧ Pv i H, ⟨n, by simp, Nat.zero_le _, h0⟩, ?_⟩
  rintro i m H ⟨rfl, hi, p⟩
  have q := hG i H hi p
  by_cases hlt : i < n
  · refine .inr ⟨w.goes i H hlt q, Pv (i + 1), fun H' p' => ⟨n - (i + 1), by omega, rfl, hlt, p'⟩, fun x H' y => hs i x H H' hlt p (w.yields i H x H' hlt q y)⟩
  · have e : i = n := by omega
    subst e
    exact .inl ⟨w.stops H q, hd H p⟩
theorem in_loop {K : Fg} {B : List V} {σs σ : Sg} {vs is : List Nat} {ρs ρ1 ρe : Rho} {Hs Hfs H1 Hf1 : Hp} {D : Addr} {J : L2.It} {items acc out : List PyData} {xs : List V} {elt : E} {tg : T} {tt : TT} {evc : Rho → Option (Bool × Rho)} {Qd : Hp → Prop}
    (w : WalkD K Hf1 J items) (I0 : LcJ K B σs ρs Hs Hfs D σ ρ1 acc H1 Hf1 xs) (hx0 : xs.length ≤ sizeLine) (hD : Hs D = none) (his : ∀ i ∈ is, i ∈ vs) (htt : TTok K tt evc) (he : loopIn (lcF φ elt tg evc) vs items acc ρ1 = some (out, ρe))
    (hd : ∀ H Hf xs, LcJ K B σs ρs Hs Hfs D (wipe σ vs) ρe out H Hf xs → xs.length ≤ sizeLine → Qd H) :
    ∃ W : Nat → Nat → Hp → Prop, (∃ m, W 0 m H1) ∧ ∀ i m H, W i m H →
      (J.stop i H ∧ Qd H) ∨ (J.go i H ∧ ∃ Nx : Hp → Prop, (∀ H', Nx H' → ∃ m', m' < m ∧ W (i + 1) m' H') ∧ ∀ x H', J.yld i H x H' → tgS K (setT tg) is x (wipe σ vs) H' fun σ2 H2 => wipe σ2 vs = wipe σ vs ∧ tt σ2 H2 fun b H3 =>
        if b = true then teS K (evE φ elt) σ2 H3 fun y H4 => ∃ acc, H4 D = some (.lst acc) ∧ acc.length < sizeLine ∧ Nx (upd H4 D (.lst (acc ++ [y]))) else Nx H3) := by
  refine in_it (w.mono (G' := fun H => Same Hf1 H) (fun _ h => h) (fun _ _ _ _ _ _ y => y)) (fun i H => ∃ ρi acc Hf xs, LcJ K B σs ρs Hs Hfs D (wipe σ vs) (wipeR ρi vs) acc H Hf xs ∧ Same Hf1 Hf ∧ xs.length ≤ sizeLine ∧ loopIn (lcF φ elt tg evc) vs (items.drop i) acc ρi = some (out, ρe)) ⟨ρ1, acc, Hf1, xs, I0.wipe vs, Same.refl _, hx0, he⟩ (fun i H _ ⟨ρi, acc, Hf, xs, I, z, _⟩ => z.trans I.s.sub) (fun i x H H' hi ⟨ρi, acc, Hf, xs, I, hz, hx, el⟩ y => ?_) (fun H ⟨ρi, acc, Hf, xs, I, hz, hx, el⟩ => ?_)
  · obtain ⟨d, hd', yp⟩ := y
    obtain ⟨Hf', s', t', r'⟩ := ppost I.s (yp Hf hz I.s.sub)
    have r' : Rp K Hf' x d := r'
    rw [List.drop_eq_getElem_cons hi] at el
    have ed : items[i] = d := by rw [List.getElem?_eq_getElem hi] at hd'; cases hd'; rfl
    rw [ed] at el
    simp only [loopIn] at el
    obtain ⟨⟨o, ρ4⟩, e1, el⟩ := bindE el
    simp only [lcF] at e1
    obtain ⟨ρ2, e2, e1⟩ := bindE e1
    obtain ⟨⟨b, ρ3⟩, e3, e1⟩ := bindE e1
    refine ⟨B, Hf', wipeR ρi vs, ρ2, d, s', r', e2, fun σ2 s2 t2 w2 l2 => ⟨?_, ?_⟩⟩
    · exact wipe_eq (l2.trans (wipe_length _ _)) fun j hj => w2 j fun z => hj (his j z)
    · have hw : wipe σ2 vs = wipe σ vs := wipe_eq (l2.trans (wipe_length _ _)) fun j hj => w2 j fun z => hj (his j z)
      refine htt B σ2 H' Hf' ρ2 ρ3 b _ s2 e3 fun H3 Hf3 s3 t3 => ?_
      cases b with
      | false =>
        simp only [Bool.false_eq_true, if_false] at e1 ⊢
        cases e1
        exact ⟨_, acc, Hf3, xs, (by have z := (I.next s3 ((t'.trans t2).trans t3)).wipe vs; rw [hw] at z; exact z), hz.trans ((t'.trans t2).trans t3).fz, hx, el⟩
      | true =>
        simp only [if_true] at e1 ⊢
        rw [Option.map_eq_some_iff] at e1
        obtain ⟨⟨r, ρ5⟩, e4, e5⟩ := e1
        cases e5
        refine ⟨B, Hf3, ρ3, _, r, s3, e4, fun v H4 Hf4 s4 t4 rv => ?_⟩
        obtain ⟨Hf5, s5, t5, rv5⟩ := frz s4 t4 rv
        have I5 := (I.next s5 (((t'.trans t2).trans t3).trans t5)).wipe vs
        rw [hw] at I5
        dsimp only at el
        split at el
        · rename_i hlt
          have hlt' : xs.length < sizeLine := by rw [I.rp.length, sizeLine_eq]; exact hlt
          exact ⟨xs, I5.at_, hlt', _, _, Hf5, _, I5.push hD rv5, hz.trans (((t'.trans t2).trans t3).trans t5).fz, by rw [List.length_append]; exact hlt', el⟩
        · cases el
  · rw [List.drop_length] at el
    simp only [loopIn] at el
    cases el
    exact hd H Hf xs I hx
def lcG (φ : Fn) (tg : T) (evc : Rho → Option (Bool × Rho)) (it2 : It) : PyData → Rho → Option (Option (List PyData) × Rho) := fun x r1 => (setT tg x r1).bind fun r2 => (evc r2).bind fun q => if q.1 then (evI φ it2 q.2).map fun z => (some z.1, z.2) else some (none, q.2)
/-- the reading of what is walked, by the evaluator -/
def wiS (K : Fg) (ev : Rho → Option (List PyData × Rho)) : TI := fun σ H R => ∃ (B : List V) (Hf : Hp) (ρ ρ' : Rho) (items : List PyData), SRel K B σ H Hf ρ ∧ ev ρ = some (items, ρ') ∧ ∀ J H' Hf', SRel K B σ H' Hf' ρ' → Step σ ρ H Hf σ ρ' H' Hf' → WalkD K Hf' J items → items.length ≤ sizeLine → R J H'
theorem SndI.pi {tg iter : Expr} {ev : Rho → Option (List PyData × Rho)} (h : SndI X tg iter ev) : PI X tg iter (wiS X.K ev) := by
  obtain ⟨wi, p, h⟩ := h
  exact ⟨fun pins s σ H R I ⟨B, Hf, ρ, ρ', items, s', e, q⟩ => p.run pins s σ H R I (h B σ H Hf ρ ρ' items R s' e q)⟩
theorem lc2_sem {vs vs1 is is1 : List Nat} {it it1 : It} {t t1 : T} {c c1 : Option E} {el : E} (hv : ∀ i ∈ vs1, i ∈ vs) (his : ∀ i ∈ is, i ∈ vs) (his1 : ∀ i ∈ is1, i ∈ vs1) (B : List V) (σ : Sg) (H Hf : Hp) (ρ ρ' : Rho) (r : SV) (Q : VK) (s : SRel X.K B σ H Hf ρ) (e : evE φ (.lc2 el t it c t1 it1 c1 vs vs1) ρ = some (r, ρ'))
    (q : ∀ v H' Hf', SRel X.K B σ H' Hf' ρ' → Step σ ρ H Hf σ ρ' H' Hf' → RpV X.K σ ρ H σ ρ' H' Hf' v r → Q v H') : tLc2 (wiS X.K (evI φ it)) (tgS X.K (setT t) is) (ttC X.K φ c) (wiS X.K (evI φ it1)) (tgS X.K (setT t1) is1) (ttC X.K φ c1) (teS X.K (evE φ el)) vs vs1 σ H Q := by
  simp only [evE] at e
  obtain ⟨⟨items, ρ1⟩, e1, e⟩ := bindE e
  rw [Option.map_eq_some_iff] at e
  obtain ⟨⟨out, ρe⟩, e2, e⟩ := e
  cases e
  have e2 : loopLc2 (lcG φ t (evC φ c) it1) (lcF φ el t1 (evC φ c1)) vs vs1 items [] ρ1 = some (out, ρe) := e2
  refine ⟨B, Hf, ρ, ρ1, items, s, e1, fun J H1 Hf1 s1 tt1 w hz D hD => ?_⟩
  refine ⟨fun i m H => m = items.length - i ∧ i ≤ items.length ∧ ∃ ρi acc Hf xs, LcI X.K B σ vs ρ1 H1 Hf1 D ρi acc H Hf xs ∧ xs.length ≤ sizeLine ∧ loopLc2 (lcG φ t (evC φ c) it1) (lcF φ el t1 (evC φ c1)) vs vs1 (items.drop i) acc ρi = some (out, ρe), ⟨items.length, by simp, Nat.zero_le _, ρ1, [], Hf1, [], lcI_start s1 hD, Nat.zero_le _, e2⟩, ?_⟩
  rintro i m H2 ⟨rfl, hi', ρi, acc, Hf2, xs, I, hx, el'⟩
  have hG : Same Hf1 H2 := I.t.fz.trans I.s.sub
  by_cases hlt : i < items.length
  · refine .inr ⟨w.goes i H2 hlt hG, fun H' => ∃ ρi acc Hf xs, LcI X.K B σ vs ρ1 H1 Hf1 D ρi acc H' Hf xs ∧ xs.length ≤ sizeLine ∧ loopLc2 (lcG φ t (evC φ c) it1) (lcF φ el t1 (evC φ c1)) vs vs1 (items.drop (i + 1)) acc ρi = some (out, ρe), fun H' p' => ⟨items.length - (i + 1), by omega, rfl, hlt, p'⟩, fun x H3 y => ?_⟩
    obtain ⟨d, hd', yp⟩ := w.yields i H2 x H3 hlt hG y
    obtain ⟨Hf', s', t', r'⟩ := ppost I.s (yp Hf2 I.t.fz I.s.sub)
    have r' : Rp X.K Hf' x d := r'
    rw [List.drop_eq_getElem_cons hlt] at el'
    have ed : items[i] = d := by rw [List.getElem?_eq_getElem hlt] at hd'; cases hd'; rfl
    rw [ed] at el'
    simp only [loopLc2] at el'
    obtain ⟨⟨o, ρ4⟩, f1, el'⟩ := bindE el'
    simp only [lcG] at f1
    obtain ⟨ρ2, f2, f1⟩ := bindE f1
    obtain ⟨⟨b, ρ3⟩, f3, f1⟩ := bindE f1
    have hwp : ∀ {σ2 : Sg}, σ2.length = (wipe σ vs).length → (∀ j, j ∉ is → σ2[j]? = (wipe σ vs)[j]?) → wipe σ2 vs = wipe σ vs := fun l2 w2 => wipe_eq (l2.trans (wipe_length _ _)) fun j hj => w2 j fun z => hj (his j z)
    refine ⟨B, Hf', wipeR ρi vs, ρ2, d, s', r', f2, fun σ2 s2 t2 w2 l2 => ⟨hwp l2 w2, ?_⟩⟩
    have hw := hwp l2 w2
    refine ttC_ok (φ := φ) (c := c) B σ2 H3 Hf' ρ2 ρ3 b _ s2 f3 fun H4 Hf4 s4 t4 => ?_
    cases b with
    | false =>
      simp only [Bool.false_eq_true, if_false] at f1 ⊢
      cases f1
      exact ⟨_, acc, Hf4, xs, (by have z := (I.next s4 ((t'.trans t2).trans t4)).wipe vs; rw [hw] at z; exact z), hx, el'⟩
    | true =>
      simp only [if_true] at f1 ⊢
      rw [Option.map_eq_some_iff] at f1
      obtain ⟨⟨its1, ρ5⟩, f4, f5⟩ := f1
      cases f5
      dsimp only at el'
      obtain ⟨⟨out1, ρ6⟩, f6, el'⟩ := bindE el'
      refine ⟨B, Hf4, ρ3, _, its1, s4, f4, fun J1 H5 Hf5 s5 t5 w5 hz5 => ?_⟩
      have I5 := I.next s5 (((t'.trans t2).trans t4).trans t5)
      refine in_loop (φ := φ) (elt := el) (tg := t1) (is := is1) w5 I5 hx hD his1 ttC_ok f6 fun H6 Hf6 xs6 I6 hx6 => ?_
      refine ⟨ρ6, out1, Hf6, xs6, ?_, hx6, el'⟩
      have z := I6.wipe vs
      have hw2 : wipe (wipe σ2 vs1) vs = wipe σ vs := by
        rw [← hw]
        refine wipe_eq (wipe_length _ _) fun j hj => ?_
        rw [wipe_out fun m => hj (hv j m), wipe_out hj]
      rw [hw2] at z
      exact z
  · have e : i = items.length := by omega
    subst e
    rw [List.drop_length] at el'
    simp only [loopLc2] at el'
    cases el'
    refine .inl ⟨w.stops H2 hG, ?_⟩
    obtain ⟨a, b, c⟩ := lc_end tt1 s1 hD I hx
    exact q _ H2 Hf2 a b c
theorem snd_lc2 {elt tg iter tg1 iter1 : Expr} {ifs ifs1 : List Expr} {scope : Scope} {own : List (Str × Nat)} {vs1 : List Nat} {pos : Pos} {it it1 : It} {t t1 : T} {c c1 : Option E} {el : E} {is is1 : List Nat} (hc : X.calm = true) (hN : X.N.Nodup) (hi : SndI X tg iter (evI φ it)) (ok : BlkOk X.N X.env.scope scope own) (hv : ∀ i ∈ vs1, i ∈ own.map (·.2)) (his : ∀ i ∈ is, i ∈ own.map (·.2)) (his1 : ∀ i ∈ is1, i ∈ vs1)
    (hg : Blk X scope fun Y => SndG Y tg (setT t) is) (ht : Blk X scope fun Y => SndC Y ifs c φ) (hi1 : Blk X scope fun Y => SndI Y tg1 iter1 (evI φ it1))
    (hg1 : Blk X scope fun Y => SndG Y tg1 (setT t1) is1) (ht1 : Blk X scope fun Y => SndC Y ifs1 c1 φ) (he : Blk X scope fun Y => SndE Y elt (evE φ el)) (hs : ∀ x, foldedSetIterable iter X.env x = pure x) (hs1 : ∀ env x, foldedSetIterable iter1 env x = pure x) :
    SndE X (.ListComp elt [⟨tg, iter, ifs, 0⟩, ⟨tg1, iter1, ifs1, 0⟩] scope pos) (evE φ (.lc2 el t it c t1 it1 c1 (own.map (·.2)) vs1)) :=
  ⟨_, pe_lc2 (wi := wiS X.K (evI φ it)) (wi1 := wiS X.K (evI φ it1)) (g := tgS X.K (setT t) is) (tt := ttC X.K φ c) (g1 := tgS X.K (setT t1) is1) (tt1 := ttC X.K φ c1) (te := teS X.K (evE φ el)) hc hN hi.pi ok hv (fun s H C cl fp => hg s H C cl fp) (fun s H C cl fp => (ht s H C cl fp).pts) (fun s H C cl fp => (hi1 s H C cl fp).pi) (fun s H C cl fp => hg1 s H C cl fp) (fun s H C cl fp => (ht1 s H C cl fp).pts) (fun s H C cl fp => (he s H C cl fp).pe) hs hs1, lc2_sem hv his his1⟩
end
end LI

set_option Elab.async false
set_option linter.all false
set_option autoImplicit false
set_option maxRecDepth 100000
set_option maxHeartbeats 4000000
namespace LI
open PySem PySem.Spec PyProof.Rows L2
theorem RpV.back2 {K : Fg} {σ σ1 σ' : Sg} {ρ ρ1 ρ' : Rho} {H H1 H' Hf Hf1 Hf' : Hp} {v : V} {r : SV} (t : Step σ ρ H Hf σ1 ρ1 H1 Hf1) (h : RpV K σ1 ρ1 H1 σ' ρ' H' Hf' v r) : RpV K σ ρ H σ' ρ' H' Hf' v r := by
  cases r with
  | dat d => exact h
  | own u d =>
    obtain ⟨a, o, h1, h2, h3, h4, h5, h6⟩ := h
    refine ⟨a, o, h1, h2, h3, h4, h5, ?_⟩
    rcases h6 with z | z
    · cases e : H a with
      | none => exact .inl rfl
      | some w =>
        refine .inr ?_
        by_cases q : Owns σ ρ a
        · exact q
        · rw [t.keep a w e q] at z; cases z
    · rcases t.own a z with y | y
      · exact .inr y
      · exact .inl y
theorem Step.stays {σ σ' : Sg} {ρ ρ' : Rho} {H H' Hf Hf' : Hp} {a : Addr} {o : HO} (t : Step σ ρ H Hf σ' ρ' H' Hf') (h : H a = some o) (n : Hf a = none) (no : ¬ Owns σ ρ a) : H' a = some o ∧ Hf' a = none ∧ ¬ Owns σ' ρ' a := by
  refine ⟨t.keep a o h no, ?_, fun z => ?_⟩
  · cases q : Hf' a with
    | none => rfl
    | some w =>
      rcases t.new a (by rw [q]; exact fun z => nomatch z) with z | z | z
      · exact absurd n z
      · rw [h] at z; cases z
      · exact absurd z no
  · rcases t.own a z with y | y
    · exact no y
    · rw [h] at y; cases y
theorem RpV.fwd {K : Fg} {σ0 σ σ2 : Sg} {ρ0 ρ1 ρ2 : Rho} {H0 H1 H2 Hf1 Hf2 : Hp} {v : V} {r : SV} (h : RpV K σ0 ρ0 H0 σ ρ1 H1 Hf1 v r) (t : Step σ ρ1 H1 Hf1 σ2 ρ2 H2 Hf2) : RpV K σ0 ρ0 H0 σ2 ρ2 H2 Hf2 v r := by
  cases r with
  | dat d => exact Rp.mono t.fz h
  | own u d =>
    obtain ⟨a, o, h1, h2, h3, h4, h5, h6⟩ := h
    obtain ⟨k1, k2, k3⟩ := t.stays h2 h3 h5
    exact ⟨a, o, h1, k1, k2, h4.mono t.fz, k3, h6⟩
/-! ### a slot gets a value -/
theorem put_ok {K : Fg} {B : List V} {σ0 σ : Sg} {ρ0 ρ : Rho} {H0 Hf0 H Hf : Hp} {v : V} {r : SV} (i : Nat) (s : SRel K B σ H Hf ρ) (t : Step σ0 ρ0 H0 Hf0 σ ρ H Hf) (h : RpV K σ0 ρ0 H0 σ ρ H Hf v r) :
    SRel K B (σ.set i (some v)) H Hf (ρ.set i (some (setV r))) ∧ Step σ0 ρ0 H0 Hf0 (σ.set i (some v)) (ρ.set i (some (setV r))) H Hf := by
  cases r with
  | dat d => exact ⟨s.setDat i h, ⟨t.fz, t.keep, t.new, fun a z => t.own a (owns_setDat z s.len)⟩⟩
  | own u d =>
    obtain ⟨a, o, rfl, h2, h3, h4, h5, h6⟩ := h
    refine ⟨⟨s.sub, by rw [List.length_set, List.length_set]; exact s.len, fun j d' e => ?_, fun j t' d' e => ?_, fun j k t' u' d' e' b q1 q2 q3 q4 => ?_⟩, ⟨t.fz, t.keep, t.new, fun b z => ?_⟩⟩
    · rcases set_get e with ⟨_, z, _⟩ | ⟨n, e⟩
      · cases z
      · rw [List.getElem?_set_ne n]; exact s.dat j d' e
    · rcases set_get e with ⟨rfl, z, hl⟩ | ⟨n, e⟩
      · cases z
        exact ⟨a, o, by rw [List.getElem?_set_self (by rw [← s.len]; exact hl)], h2, h3, h4, fun _ z => nomatch z⟩
      · rw [List.getElem?_set_ne n]; exact s.own j t' d' e
    · have ne : ∀ (k : Nat) (u' : Option Nat) (e' : PyData), ρ[k]? = some (some (SV.own u' e')) → σ[k]? = some (some (V.ref a)) → False := fun k u' e' z1 z2 => h5 ⟨k, u', e', z1, z2⟩
      rcases set_get q1 with ⟨rfl, z, hl⟩ | ⟨n1, q1⟩
      · rw [List.getElem?_set_self (by rw [← s.len]; exact hl)] at q3
        cases q3
        rcases set_get q2 with ⟨rfl, _, _⟩ | ⟨n2, q2⟩
        · rfl
        · rw [List.getElem?_set_ne n2] at q4
          exact (ne _ _ _ q2 q4).elim
      · rw [List.getElem?_set_ne n1] at q3
        rcases set_get q2 with ⟨rfl, z, hl⟩ | ⟨n2, q2⟩
        · rw [List.getElem?_set_self (by rw [← s.len]; exact hl)] at q4
          cases q4
          exact (ne _ _ _ q1 q3).elim
        · rw [List.getElem?_set_ne n2] at q4
          exact s.dis j k t' u' d' e' b q1 q2 q3 q4
    · obtain ⟨j, t', d', q1, q2⟩ := z
      rcases set_get q1 with ⟨rfl, z, hl⟩ | ⟨n1, q1⟩
      · rw [List.getElem?_set_self (by rw [← s.len]; exact hl)] at q2
        cases q2
        exact h6.elim .inr .inl
      · rw [List.getElem?_set_ne n1] at q2
        exact t.own b ⟨j, t', d', q1, q2⟩
/-! ### an owned list is changed -/
theorem mut_ok {K : Fg} {B : List V} {σ : Sg} {ρ : Rho} {H Hf : Hp} {i : Nat} {t : Option Nat} {d : PyData} {a : Addr} {ys : List V} {es : List PyData} (s : SRel K B σ H Hf ρ) (h : ρ[i]? = some (some (.own t d))) (ha : σ[i]? = some (some (.ref a))) (hz : ys.length ≤ sizeLine) (r : RpAll K Hf ys es) :
    SRel K B σ (upd H a (.lst ys)) Hf (ρ.set i (some (.own t (.list es)))) ∧ Step σ ρ H Hf σ (ρ.set i (some (.own t (.list es)))) (upd H a (.lst ys)) Hf := by
  obtain ⟨a', o, k1, k2, k3, k4, k5⟩ := s.own i t d h
  rw [ha] at k1; cases k1
  have oi : Owns σ ρ a := ⟨i, t, d, h, ha⟩
  have back : ∀ (j : Nat) (u : Option Nat) (e : PyData), (ρ.set i (some (SV.own t (.list es))))[j]? = some (some (SV.own u e)) → ∃ e0, ρ[j]? = some (some (SV.own u e0)) := fun j u e q => by
    rcases set_get q with ⟨rfl, z, _⟩ | ⟨_, q⟩
    · cases z; exact ⟨d, h⟩
    · exact ⟨e, q⟩
  refine ⟨⟨fun b u e => ?_, by rw [List.length_set]; exact s.len, fun j d' e => ?_, fun j t' d' e => ?_, fun j k t' u d' e' b q1 q2 q3 q4 => ?_⟩, ⟨Same.refl _, fun b o h n => ?_, fun _ z => .inl z, fun b z => ?_⟩⟩
  · rw [upd_ne (ne_of_none e k3)]; exact s.sub b u e
  · rcases set_get e with ⟨_, z, _⟩ | ⟨_, e⟩
    · cases z
    · exact s.dat j d' e
  · rcases set_get e with ⟨rfl, z, _⟩ | ⟨n, e⟩
    · cases z
      exact ⟨a, _, ha, upd_same, k3, ⟨ys, es, rfl, rfl, hz, r⟩, k5⟩
    · obtain ⟨b, o', m1, m2, m⟩ := s.own j t' d' e
      exact ⟨b, o', m1, by rw [upd_ne fun z => n (s.dis i j t t' d d' a h e ha (by rw [← z]; exact m1))]; exact m2, m⟩
  · obtain ⟨e1, q1⟩ := back _ _ _ q1
    obtain ⟨e2, q2⟩ := back _ _ _ q2
    exact s.dis j k t' u e1 e2 b q1 q2 q3 q4
  · rw [upd_ne fun z => n (by rw [z]; exact oi)]; exact h
  · obtain ⟨j, u, e, q1, q2⟩ := z
    obtain ⟨e1, q1⟩ := back _ _ _ q1
    exact .inl ⟨j, u, e1, q1, q2⟩
/-- an owned list's reading -/
theorem own_list {K : Fg} {B : List V} {σ : Sg} {ρ : Rho} {H Hf : Hp} {i : Nat} {t : Option Nat} {ds : List PyData} (s : SRel K B σ H Hf ρ) (h : ρ[i]? = some (some (.own t (.list ds)))) : ∃ a xs, σ[i]? = some (some (.ref a)) ∧ H a = some (.lst xs) ∧ xs.length ≤ sizeLine ∧ RpAll K Hf xs ds := by
  obtain ⟨a, o, k1, k2, k3, ⟨xs, ds', rfl, e, hz, hr⟩, k5⟩ := s.own i t _ h
  cases e
  exact ⟨a, xs, k1, k2, hz, hr⟩
theorem ownL_c {r : Rho} {i : Nat} (h : ownL r i = true) : ∃ t ds, r[i]? = some (some (.own t (.list ds))) := by
  unfold ownL at h
  split at h
  · rename_i t ds e; exact ⟨t, ds, e⟩
  · cases h
def hd1 (f : V → Hp → Prop) : List V → Hp → Prop
  | v :: _, H => f v H
  | [], _ => False
theorem rdOs_len : ∀ {ρ : Rho} {os : List Opd} {ds : List PyData}, rdOs ρ os = some ds → ds.length = os.length
  | _, [], _, h => by simp [rdOs] at h; subst h; rfl
  | ρ, o :: os, ds, h => by
    simp only [rdOs] at h
    obtain ⟨d, _, h⟩ := bindE h
    rw [Option.map_eq_some_iff] at h
    obtain ⟨ds2, h2, rfl⟩ := h
    rw [List.length_cons, List.length_cons, rdOs_len h2]
theorem evO_len {φ : Fn} {c : E} {ρ ρ1 : Rho} {os : List Opd} (h : evO φ [c] ρ = some (os, ρ1)) : os.length = 1 := by
  by_cases z : isVarE c = true
  · cases c <;> simp [isVarE] at z
    simp only [evO] at h
    split at h
    · simp at h; rw [← h.1]; rfl
    · cases h
  · rw [evO_cons (by simpa using z)] at h
    obtain ⟨p, _, h⟩ := bindE h
    simp [evO] at h
    rw [← h.1]; rfl
theorem OpRs.len1 {K : Fg} {σ : Sg} {Hf : Hp} {vs : List V} {os : List Opd} (h : OpRs K σ Hf vs os) (hl : os.length = 1) : ∃ v, vs = [v] := by
  cases h with
  | nil => cases hl
  | cons _ t => cases t with
    | nil => exact ⟨_, rfl⟩
    | cons _ _ => simp at hl
theorem RpOs.hd {K : Fg} {H Hf : Hp} {v : V} {d : PyData} {vs : List V} {ds : List PyData} (h : RpOs K H Hf (v :: vs) (d :: ds)) : RpO K H Hf v d := by
  cases h with | cons h _ => exact h
section
variable {X : Cx} {φ : Fn}
/-! ### chains -/
theorem chain_sem {p q : Pr} {r r' : R2} {ca cb cc : E} {ta tb tc : TE} {K : Fg} (hr : PrimR K p (R2l r)) (hr' : PrimR K q (R2l r')) (hb1 : isBoolP p)
    (h1 : ∀ (B : List V) (σ : Sg) (H Hf : Hp) (ρ ρ' : Rho) (r : SV) (Q : VK), SRel K B σ H Hf ρ → evE φ ca ρ = some (r, ρ') → (∀ v H' Hf', SRel K B σ H' Hf' ρ' → Step σ ρ H Hf σ ρ' H' Hf' → Rp K Hf' v r.d → Q v H') → ta σ H Q)
    (h2 : ∀ (B : List V) (σ : Sg) (H Hf : Hp) (ρ ρ' : Rho) (r : SV) (Q : VK), SRel K B σ H Hf ρ → evE φ cb ρ = some (r, ρ') → (∀ v H' Hf', SRel K B σ H' Hf' ρ' → Step σ ρ H Hf σ ρ' H' Hf' → Rp K Hf' v r.d → Q v H') → tb σ H Q)
    (h3 : ∀ (B : List V) (σ : Sg) (H Hf : Hp) (ρ ρ' : Rho) (r : SV) (Q : VK), SRel K B σ H Hf ρ → evE φ cc ρ = some (r, ρ') → (∀ v H' Hf', SRel K B σ H' Hf' ρ' → Step σ ρ H Hf σ ρ' H' Hf' → Rp K Hf' v r.d → Q v H') → tc σ H Q)
    (B : List V) (σ : Sg) (H Hf : Hp) (ρ ρ' : Rho) (sv : SV) (Q : VK) (s : SRel K B σ H Hf ρ) (e : evE φ (.chain p q ca cb cc) ρ = some (sv, ρ')) (k : ∀ v H' Hf', SRel K B σ H' Hf' ρ' → Step σ ρ H Hf σ ρ' H' Hf' → RpV K σ ρ H σ ρ' H' Hf' v sv → Q v H') : tChain r r' ta tb tc σ H Q := by
  simp only [evE] at e
  obtain ⟨⟨x, ρ1⟩, e1, e⟩ := bindE e
  obtain ⟨⟨y, ρ2⟩, e2, e⟩ := bindE e
  obtain ⟨v, e3, e⟩ := bindE e
  obtain ⟨t, e4, e⟩ := bindE e
  refine h1 B σ H Hf ρ ρ1 x _ s e1 fun vx H1 Hf1 s1 t1 rx => ?_
  refine h2 B σ H1 Hf1 ρ1 ρ2 y _ s1 e2 fun vy H2 Hf2 s2 t2 ry => ?_
  obtain ⟨b0, rfl⟩ := hb1 _ _ e3
  refine hr H2 Hf2 [vx, vy] [x.d, y.d] _ _ s2.sub (.cons (.inl (rx.mono t2.fz)) (.cons (.inl ry) .nil)) e3 fun w H3 P => ?_
  obtain ⟨Hf3, s3, t3, r3⟩ := ppost s2 P
  have r3 : Rp K Hf3 w (.bool b0) := r3
  obtain rfl : w = .bl b0 := by cases r3; rfl
  obtain rfl : b0 = t := by simpa [truth, SV.d] using e4
  refine ⟨b0, rfl, ?_⟩
  cases b0 with
  | true =>
    simp only [if_true] at e ⊢
    obtain ⟨⟨z, ρ3⟩, e5, e⟩ := bindE e
    rw [Option.map_eq_some_iff] at e
    obtain ⟨v', e6, e7⟩ := e
    cases e7
    refine h3 B σ H3 Hf3 ρ2 _ z _ s3 e5 fun vz H4 Hf4 s4 t4 rz => ?_
    refine hr' H4 Hf4 [vy, vz] [y.d, z.d] _ _ s4.sub (.cons (.inl ((ry.mono t3.fz).mono t4.fz)) (.cons (.inl rz) .nil)) e6 fun w H5 P => ?_
    obtain ⟨Hf5, s5, t5, r5⟩ := ppost s4 P
    have tt := ((t1.trans t2).trans t3).trans t4
    exact k w H5 Hf5 s5 (tt.trans t5) (RpV.back tt r5)
  | false =>
    simp only [Bool.false_eq_true, if_false] at e ⊢
    cases e
    exact k _ H3 Hf3 s3 ((t1.trans t2).trans t3) (.bl false)
theorem snd_chain {op op' : CmpOp} {p q : Pr} {r r' : R2} {a b c : Expr} {pos : Pos} {ca cb cc : E} (ho : OpR X (compareOp op) r) (ho' : OpR X (compareOp op') r') (hr : PrimR X.K p (R2l r)) (hr' : PrimR X.K q (R2l r')) (hb1 : isBoolP p) (hm : lastMarks [op, op'] [b, c] = false)
    (ha : SndE X a (evE φ ca)) (hb : SndE X b (evE φ cb)) (hc : SndE X c (evE φ cc)) : SndE X (.Compare a [op, op'] [b, c] pos) (evE φ (.chain p q ca cb cc)) := by
  obtain ⟨ta, p1, h1⟩ := ha.dt
  obtain ⟨tb, p2, h2⟩ := hb.dt
  obtain ⟨tc, p3, h3⟩ := hc.dt
  exact ⟨_, pe_chain ho ho' p1 p2 p3 hm, chain_sem hr hr' hb1 h1 h2 h3⟩
theorem chain_bool {p q : Pr} {ca cb cc : E} {ρ ρ' : Rho} {sv : SV} (hb1 : isBoolP p) (hb2 : isBoolP q) (e : evE φ (.chain p q ca cb cc) ρ = some (sv, ρ')) : ∃ b, sv = .dat (.bool b) := by
  simp only [evE] at e
  obtain ⟨⟨x, ρ1⟩, e1, e⟩ := bindE e
  obtain ⟨⟨y, ρ2⟩, e2, e⟩ := bindE e
  obtain ⟨v, e3, e⟩ := bindE e
  obtain ⟨t, e4, e⟩ := bindE e
  cases t with
  | true =>
    simp only [if_true] at e
    obtain ⟨⟨z, ρ3⟩, e5, e⟩ := bindE e
    rw [Option.map_eq_some_iff] at e
    obtain ⟨v', e6, e7⟩ := e
    cases e7
    exact hb2 _ _ e6
  | false =>
    simp only [Bool.false_eq_true, if_false] at e
    cases e
    exact hb1 _ _ e3
theorem sndT_chain {op op' : CmpOp} {p q : Pr} {r r' : R2} {a b c : Expr} {pos : Pos} {ca cb cc : E} (ho : OpR X (compareOp op) r) (ho' : OpR X (compareOp op') r') (hr : PrimR X.K p (R2l r)) (hr' : PrimR X.K q (R2l r')) (hb1 : isBoolP p) (hb2 : isBoolP q) (hm : lastMarks [op, op'] [b, c] = false)
    (ha : SndE X a (evE φ ca)) (hb : SndE X b (evE φ cb)) (hc : SndE X c (evE φ cc)) : SndT X (.Compare a [op, op'] [b, c] pos) (evT φ (.chain p q ca cb cc)) := by
  obtain ⟨ta, p1, h1⟩ := ha.dt
  obtain ⟨tb, p2, h2⟩ := hb.dt
  obtain ⟨tc, p3, h3⟩ := hc.dt
  refine ⟨_, pt_chain ho ho' p1 p2 p3 hm, fun B σ H Hf ρ ρ' t Q s e k => ?_⟩
  obtain ⟨v, e1, e2⟩ := evT_inv e
  obtain ⟨b0, rfl⟩ := chain_bool hb1 hb2 e1
  obtain rfl : b0 = t := by simpa [truth, SV.d] using e2
  exact chain_sem hr hr' hb1 h1 h2 h3 B σ H Hf ρ ρ' _ _ s e1 fun v H' Hf' s' t' rv => by
    have rv : Rp X.K Hf' v (.bool b0) := rv
    cases rv
    exact ⟨_, rfl, k H' Hf' s' t'⟩
/-! ### a[lo:hi] -/
theorem snd_sl2 {a lo hi : Expr} {p2 pos : Pos} {ca clo chi : E} (ha : SndO X [a] (evO φ [ca])) (hlo : SndE X lo (evE φ clo)) (hhi : SndE X hi (evE φ chi)) : SndE X (.Subscript a (.Slice (some lo) (some hi) none p2) pos) (evE φ (.sl2 [ca] clo chi)) := by
  obtain ⟨ts, p1, h1⟩ := ha
  obtain ⟨tlo, q2, h2⟩ := hlo.dt
  obtain ⟨thi, q3, h3⟩ := hhi.dt
  cases p1 with
  | cons pa p1 =>
    cases p1
    refine ⟨_, pe_slice sl_any pa (po_some q2) (po_some q3), fun B σ H Hf ρ ρ' sv Q s e k => ?_⟩
    simp only [evE] at e
    obtain ⟨⟨os, ρ1⟩, e1, e⟩ := bindE e
    obtain ⟨⟨x, ρ2⟩, e2, e⟩ := bindE e
    obtain ⟨⟨y, ρ3⟩, e3, e⟩ := bindE e
    obtain ⟨ds, e4, e⟩ := bindE e
    rw [Option.map_eq_some_iff] at e
    obtain ⟨v, e5, e6⟩ := e
    cases e6
    obtain ⟨d0, rfl⟩ : ∃ d0, ds = [d0] := by
      have hl := rdOs_len e4
      have hl2 : os.length = 1 := evO_len e1
      rw [hl2] at hl
      match ds, hl with
      | [d0], _ => exact ⟨d0, rfl⟩
    obtain ⟨pp, hp⟩ := slP1 e5
    obtain ⟨i, j, ex, ey⟩ : ∃ i j, x.d = .int i ∧ y.d = .int j := by
      generalize x.d = dx at hp
      generalize y.d = dy at hp
      cases dx <;> cases dy <;> first | exact ⟨_, _, rfl, rfl⟩ | (simp [slParts] at hp)
    refine h1 B σ H Hf ρ ρ1 os (hd1 fun v0 H1 => tPart tlo σ H1 fun l H2 => tPart thi σ H2 fun u H3 => rSlX X.K v0 l u H3 Q) s e1 fun vs H1 Hf1 s1 t1 ro => ?_
    obtain ⟨v0, rfl⟩ := ro.len1 (evO_len e1)
    refine h2 B σ H1 Hf1 ρ1 ρ2 x _ s1 e2 fun vx H2 Hf2 s2 t2 rx => ?_
    rw [ex] at rx
    cases rx
    refine ⟨i, rfl, h3 B σ H2 Hf2 ρ2 _ y _ s2 e3 fun vy H3 Hf3 s3 t3 ry => ?_⟩
    rw [ey] at ry
    cases ry
    have ro3 : OpRs X.K σ Hf3 [v0] os := (ro.mono t2.fz).mono t3.fz
    refine ⟨j, rfl, slX s3.sub (ro3.rd s3 e4).hd (show pSl true true [d0, .int i, .int j] = some _ by rw [← ex, ← ey]; exact e5) rfl fun w H4 P => ?_⟩
    obtain ⟨Hf4, s4, t4, r4⟩ := ppost s3 P
    have tt := (t1.trans t2).trans t3
    exact k w H4 Hf4 s4 (tt.trans t4) (RpV.back tt r4)
end
end LI

set_option Elab.async false
set_option linter.all false
set_option autoImplicit false
set_option maxRecDepth 100000
set_option maxHeartbeats 4000000
namespace LI
open PySem PySem.Spec PyProof.Rows L2
theorem few1 {cpos : Pos} {e : Expr} {env : Env} (h : noStar e = true) : ((backTo cpos (starEach [e] env)).all (fun x => !x.1) && (backToKw cpos (keywordEach [] env)).all (fun x => x.1.isSome)
      && decide ([e].length + ([] : List Keyword).length + (if ([] : List Keyword).isEmpty then 0 else 1) < 30)) = true := by
  rw [starEach_no h]; rfl
theorem base_name {x : Str} {p : Pos} {name : Str} {env : Env} : attributeBase (.Name x p) name env (eval (.Name x p) env) = eval (.Name x p) env := rfl
theorem findE_ok {d : PyData} : ∀ {ds : List PyData} {j : Nat}, findE d ds = some j → ∃ z, ds[j]? = some z ∧ PyData.eqv z d = true ∧ ∀ (m : Nat) (z' : PyData), m < j → ds[m]? = some z' → PyData.eqv z' d = false
  | [], _, h => by simp [findE] at h
  | x :: r, j, h => by
    simp only [findE] at h
    split at h
    · rename_i hx
      cases h
      exact ⟨x, rfl, hx, fun m _ hm _ => absurd hm (Nat.not_lt_zero m)⟩
    · rename_i hx
      rw [Option.map_eq_some_iff] at h
      obtain ⟨k, h1, rfl⟩ := h
      obtain ⟨z, k1, k2, k3⟩ := findE_ok h1
      refine ⟨z, by simpa using k1, k2, fun m z' hm hz => ?_⟩
      cases m with
      | zero => simp at hz; subst hz; simpa using hx
      | succ m => exact k3 m z' (by omega) (by simpa using hz)
section
variable {X : Cx} {φ : Fn}
theorem snd_index {o e : Expr} {apos cpos : Pos} {co ce : E} (hu : X.A.units + 65 < cLine) (hb : attributeBase o "index" X.env (eval o X.env) = eval o X.env) (hl : (apos.endLine == cpos.line) = true) (hs : noStar e = true)
    (ho : SndO X [o] (evO φ [co])) (he : SndE X e (evE φ ce)) : SndE X (.Call (.Attribute o "index" apos) [e] [] cpos) (evE φ (.index [co] ce)) := by
  obtain ⟨ts, p1, h1⟩ := ho
  obtain ⟨te, p2, h2⟩ := he.dt
  cases p1 with
  | cons pa p1 =>
    cases p1
    refine ⟨_, pe_bm PySem.F.plainAttrs_list PySem.F.slot_list_index PySem.F.type_list_index (mt_indexD hu) pa (pa_cons p2 pa_nil (starEach_no hs)) hb (few1 hs) hl (starEach_no hs) rfl, fun B σ H Hf ρ ρ' sv Q s e k => ?_⟩
    simp only [evE] at e
    obtain ⟨⟨os, ρ1⟩, e1, e⟩ := bindE e
    obtain ⟨ds0, e2, e⟩ := bindE e
    split at e
    · rename_i hl0
      obtain ⟨⟨x, ρ2⟩, e3, e⟩ := bindE e
      obtain ⟨ds, e4, e⟩ := bindE e
      rw [Option.map_eq_some_iff] at e
      obtain ⟨v, e5, e6⟩ := e
      cases e6
      obtain ⟨l0, rfl⟩ : ∃ l0, ds0 = [.list l0] := by
        unfold isListD at hl0
        split at hl0
        · exact ⟨_, rfl⟩
        · cases hl0
      obtain ⟨d0, rfl⟩ : ∃ d0, ds = [d0] := by
        have hl := rdOs_len e4
        rw [evO_len e1] at hl
        match ds, hl with
        | [d0], _ => exact ⟨d0, rfl⟩
      have e5 : pIndex d0 x.d = some _ := e5
      unfold pIndex at e5
      split at e5
      · skip
        split at e5
        · rename_i hsh
          obtain ⟨j, e7, e5⟩ := bindE e5
          cases e5
          obtain ⟨z, k1, k2, k3⟩ := findE_ok e7
          simp only [Bool.and_eq_true] at hsh
          refine h1 B σ H Hf ρ ρ1 os (hd1 fun v0 H1 => tyV X.K "list" v0 H1 ∧ tCons te tNil σ H1 fun xs H2 => rIndexD X.K v0 xs H2 Q) s e1 fun vs H1 Hf1 s1 t1 ro => ?_
          obtain ⟨v0, rfl⟩ := ro.len1 (evO_len e1)
          obtain ⟨a, xs, rfl, ha, _, _⟩ := (ro.rd s1 e2).hd.list s1.sub
          refine ⟨.inl ⟨rfl, _, SqL.of ha⟩, h2 B σ H1 Hf1 ρ1 _ x _ s1 e3 fun vx H2 Hf2 s2 t2 rx => ?_⟩
          have rl := ((ro.mono t2.fz).rd s2 e4).hd.rp s2.sub
          refine ⟨a, vx, x.d, _, j, z, rfl, rfl, rl.dp (SeqAt.canLay_of_shaped hsh.2), (rx.mono s2.sub).dp (SeqAt.canLay_of_shaped hsh.1), hsh.2, hsh.1, k1, k2, k3, ?_⟩
          exact k _ H2 Hf2 s2 (t1.trans t2) (.int _)
        · cases e5
      · cases e5
    · cases e
theorem snd_popAt {i : Nat} {x : Str} {e : Expr} {np apos cpos : Pos} {ce : E} (hN : X.N[i]? = some x) (hv : Vis X.env.scope x) (hd : (x == ("__debug__" : Str)) = false) (hcd : (x == ("__classdict__" : Str)) = false) (hl : (apos.endLine == cpos.line) = true) (hs : noStar e = true)
    (he : SndE X e (evE φ ce)) : SndE X (.Call (.Attribute (.Name x np) "pop" apos) [e] [] cpos) (evE φ (.popAt i ce)) := by
  obtain ⟨te, p2, h2⟩ := he.dt
  refine ⟨_, pe_bm PySem.F.plainAttrs_list PySem.F.slot_list_pop PySem.F.type_list_pop mt_popAt (pe_var hN hv hd hcd) (pa_cons p2 pa_nil (starEach_no hs)) base_name (few1 hs) hl (starEach_no hs) rfl, fun B σ H Hf ρ ρ' sv Q s e k => ?_⟩
  simp only [evE] at e
  split at e
  · rename_i ho
    obtain ⟨t0, ds0, h0⟩ := ownL_c ho
    obtain ⟨⟨r, ρ1⟩, e1, e⟩ := bindE e
    obtain ⟨a, xs, k1, k2, k3, k4⟩ := own_list s h0
    refine ⟨.ref a, k1, .inl ⟨rfl, _, SqL.of k2⟩, h2 B σ H Hf ρ ρ1 r _ s e1 fun vx H1 Hf1 s1 t1 rx => ?_⟩
    dsimp only at e
    split at e
    · rename_i kk t ds hr hρ
      obtain ⟨j, e2, e⟩ := bindE e
      rw [Option.map_eq_some_iff] at e
      obtain ⟨d, e3, e⟩ := e
      cases e
      rw [hr] at rx
      cases rx
      obtain ⟨a', ys, m1, m2, m3, m4⟩ := own_list s1 hρ
      rw [k1] at m1; cases m1
      obtain ⟨v, n1, n2⟩ := m4.get e3
      rw [ixD_eq, ← m4.length] at e2
      obtain ⟨q1, q2, q3, q4⟩ := ixN_seq e2
      have hz := sizeLine_eq
      refine ⟨a, ys, kk, j, v, rfl, rfl, m2, by omega, by omega, q1, n1, ?_⟩
      obtain ⟨s2, t2⟩ := mut_ok s1 hρ k1 (ys := ys.eraseIdx j) (es := ds.eraseIdx j) (by have := List.length_eraseIdx_le ys j; omega) (m4.er j)
      exact k _ _ Hf1 s2 (t1.trans t2) n2
    · cases e
  · cases e
end
end LI

set_option Elab.async false
set_option linter.all false
set_option autoImplicit false
set_option maxRecDepth 100000
set_option maxHeartbeats 4000000
namespace LI
open PySem PySem.Spec PyProof.Rows L2
/-! ### statements -/
def FP (K : Fg) (B : List V) (σ : Sg) (ρ : Rho) (H Hf : Hp) (ρ' : Rho) (D : Ends) : Fl → Prop
  | .nx => ∀ σ' H' Hf', SRel K B σ' H' Hf' ρ' → Step σ ρ H Hf σ' ρ' H' Hf' → D.nx σ' H'
  | .brk => ∀ σ' H' Hf', SRel K B σ' H' Hf' ρ' → Step σ ρ H Hf σ' ρ' H' Hf' → D.bk σ' H'
  | .cont => ∀ σ' H' Hf', SRel K B σ' H' Hf' ρ' → Step σ ρ H Hf σ' ρ' H' Hf' → D.ct σ' H'
  | .ret r => ∀ v σ' H' Hf', SRel K B σ' H' Hf' ρ' → Step σ ρ H Hf σ' ρ' H' Hf' → RpV K σ ρ H σ' ρ' H' Hf' v r → D.rt v H'
theorem FP.back {K : Fg} {B : List V} {σ σ1 : Sg} {ρ ρ1 ρ' : Rho} {H Hf H1 Hf1 : Hp} {D : Ends} {f : Fl} (t : Step σ ρ H Hf σ1 ρ1 H1 Hf1) (h : FP K B σ ρ H Hf ρ' D f) : FP K B σ1 ρ1 H1 Hf1 ρ' D f := by
  cases f with
  | nx => exact fun σ' H' Hf' s' t' => h σ' H' Hf' s' (t.trans t')
  | brk => exact fun σ' H' Hf' s' t' => h σ' H' Hf' s' (t.trans t')
  | cont => exact fun σ' H' Hf' s' t' => h σ' H' Hf' s' (t.trans t')
  | ret r => exact fun v σ' H' Hf' s' t' rv => h v σ' H' Hf' s' (t.trans t') (RpV.back2 t rv)
def SemS (K : Fg) (ts : TS) (ev : Rho → Option (Fl × Rho)) : Prop := ∀ (B : List V) (σ : Sg) (H Hf : Hp) (ρ ρ' : Rho) (f : Fl) (D : Ends), SRel K B σ H Hf ρ → ev ρ = some (f, ρ') → FP K B σ ρ H Hf ρ' D f → ts D σ H
def SndS (X : Cx) (st : Stmt) (ev : Rho → Option (Fl × Rho)) : Prop := ∃ ts, PS X st ts ∧ SemS X.K ts ev
def SndSs (X : Cx) (sts : List Stmt) (ev : Rho → Option (Fl × Rho)) : Prop := ∃ ts, PSs X sts ts ∧ SemS X.K ts ev
section
variable {X : Cx} {φ : Fn}
theorem sndSs_nil : SndSs X [] (evSs φ []) := by
  refine ⟨_, pss_nil, fun B σ H Hf ρ ρ' f D s e q => ?_⟩
  simp only [evSs] at e
  cases e
  exact q σ H Hf s Step.refl
theorem sndSs_cons {st : Stmt} {sts : List Stmt} {c : S} {cs : List S} (h : SndS X st (evS φ c)) (k : SndSs X sts (evSs φ cs)) : SndSs X (st :: sts) (evSs φ (c :: cs)) := by
  obtain ⟨t, p, h⟩ := h
  obtain ⟨u, p', k⟩ := k
  refine ⟨_, pss_cons p p', fun B σ H Hf ρ ρ' f D s e q => ?_⟩
  simp only [evSs] at e
  obtain ⟨⟨f1, ρ1⟩, e1, e⟩ := bindE e
  cases f1 with
  | nx =>
    exact h B σ H Hf ρ ρ1 .nx _ s e1 fun σ1 H1 Hf1 s1 t1 => k B σ1 H1 Hf1 ρ1 ρ' f D s1 e (q.back t1)
  | brk => cases e; exact h B σ H Hf ρ ρ1 .brk _ s e1 q
  | cont => cases e; exact h B σ H Hf ρ ρ1 .cont _ s e1 q
  | ret r => cases e; exact h B σ H Hf ρ ρ1 (.ret r) _ s e1 q
theorem snd_pass {pos : Pos} : SndS X (.Pass pos) (evS φ .pass) := ⟨_, ps_pass, fun B σ H Hf ρ ρ' f D s e q => by simp only [evS] at e; cases e; exact q σ H Hf s Step.refl⟩
theorem snd_brk {pos : Pos} : SndS X (.Break pos) (evS φ .brk) := ⟨_, ps_break, fun B σ H Hf ρ ρ' f D s e q => by simp only [evS] at e; cases e; exact q σ H Hf s Step.refl⟩
theorem snd_cont {pos : Pos} : SndS X (.Continue pos) (evS φ .cont) := ⟨_, ps_continue, fun B σ H Hf ρ ρ' f D s e q => by simp only [evS] at e; cases e; exact q σ H Hf s Step.refl⟩
theorem snd_never {st : Stmt} : SndS X st (evS φ .never) := ⟨_, ps_never, fun B σ H Hf ρ ρ' f D s e q => by simp only [evS] at e; cases e⟩
theorem snd_retN {pos : Pos} : SndS X (.Return none pos) (evS φ .retN) := ⟨_, ps_retN, fun B σ H Hf ρ ρ' f D s e q => by simp only [evS] at e; cases e; exact q _ σ H Hf s Step.refl .non⟩
def isVarC : E → Bool
  | .var _ => true
  | _ => false
theorem evS_ret {e : E} {r : Rho} (h : isVarC e = false) : evS φ (.ret e) r = (evE φ e r).map fun p => (.ret p.1, p.2) := by
  cases e <;> first | rfl | (simp [isVarC] at h)
theorem snd_ret {e : Expr} {pos : Pos} {c : E} (hc : isVarC c = false) (h : SndE X e (evE φ c)) : SndS X (.Return (some e) pos) (evS φ (.ret c)) := by
  obtain ⟨te, p, h⟩ := h
  refine ⟨_, ps_ret p, fun B σ H Hf ρ ρ' f D s e q => ?_⟩
  rw [evS_ret hc, Option.map_eq_some_iff] at e
  obtain ⟨⟨r, ρ1⟩, e1, e2⟩ := e
  cases e2
  exact h B σ H Hf ρ _ r _ s e1 fun v H' Hf' s' t' rv => q v σ H' Hf' s' t' rv
theorem snd_retV {i : Nat} {x : Str} {np pos : Pos} (hN : X.N[i]? = some x) (hv : Vis X.env.scope x) (hd : (x == ("__debug__" : Str)) = false) (hcd : (x == ("__classdict__" : Str)) = false) : SndS X (.Return (some (.Name x np)) pos) (evS φ (.ret (.var i))) := by
  refine ⟨_, ps_ret (pe_var hN hv hd hcd), fun B σ H Hf ρ ρ' f D s e q => ?_⟩
  simp only [evS] at e
  split at e
  · rename_i d hw
    cases e
    obtain ⟨v, k1, k2⟩ := s.dat i d hw
    exact ⟨v, k1, q v σ H Hf s Step.refl k2⟩
  · rename_i u d hw
    cases e
    obtain ⟨a, o, k1, k2, k3, k4, k5⟩ := s.own i u d hw
    refine ⟨.ref a, k1, q _ σ H Hf (s.setNone i) (Step.setNone i) ⟨a, o, rfl, k2, k3, k4, ?_, .inr ⟨i, u, d, hw, k1⟩⟩⟩
    rintro ⟨j, t', d', q1, q2⟩
    obtain ⟨n, q1⟩ := get_set_none q1
    exact n (s.dis i j u t' d d' a hw q1 k1 q2)
  · cases e
theorem snd_expr {e : Expr} {pos : Pos} {c : E} (hs : swapsWith e none pos.line X.env = pure false) (h : SndE X e (evE φ c)) : SndS X (.Expr e pos) (evS φ (.expr c)) := by
  obtain ⟨te, p, h⟩ := h
  refine ⟨_, ps_expr p hs, fun B σ H Hf ρ ρ' f D s e q => ?_⟩
  simp only [evS] at e
  rw [Option.map_eq_some_iff] at e
  obtain ⟨⟨r, ρ1⟩, e1, e2⟩ := e
  cases e2
  exact h B σ H Hf ρ _ r _ s e1 fun v H' Hf' s' t' rv => q σ H' Hf' s' t'
theorem snd_if {c : Expr} {a b : List Stmt} {pos : Pos} {cc : E} {ca cb : List S} (hc : SndT X c (evT φ cc)) (ha : SndSs X a (evSs φ ca)) (hb : SndSs X b (evSs φ cb)) : SndS X (.If c a b pos) (evS φ (.ite cc ca cb)) := by
  obtain ⟨tc, p, hc⟩ := hc
  obtain ⟨ta, pa, ha⟩ := ha
  obtain ⟨tb, pb, hb⟩ := hb
  refine ⟨_, ps_if p pa pb, fun B σ H Hf ρ ρ' f D s e q => ?_⟩
  simp only [evS] at e
  obtain ⟨⟨t, ρ1⟩, e1, e⟩ := bindE e
  refine hc B σ H Hf ρ ρ1 t _ s e1 fun H1 Hf1 s1 t1 => ?_
  cases t with
  | true => simp only [if_true] at e ⊢; exact ha B σ H1 Hf1 ρ1 ρ' f D s1 e (q.back t1)
  | false => simp only [Bool.false_eq_true, if_false] at e ⊢; exact hb B σ H1 Hf1 ρ1 ρ' f D s1 e (q.back t1)
/-! ### stores -/
theorem snd_asg {i : Nat} {x : Str} {e : Expr} {np pos : Pos} {c : E} (hN : X.N.Nodup) (hi : X.N[i]? = some x) (hx : Loc X.env.scope x) (hf : X.fn x = true ∨ X.env.scope.names.lookup x = some .local) (hs : swapsWith e (some (.Name x np)) pos.line X.env = pure false) (h : SndE X e (evE φ c)) : SndS X (.Assign [.Name x np] e pos) (evS φ (.asg i c)) := by
  obtain ⟨te, p, h⟩ := h
  refine ⟨_, ps_set hN hi hx p hs hf, fun B σ H Hf ρ ρ' f D s e q => ?_⟩
  simp only [evS] at e
  rw [Option.map_eq_some_iff] at e
  obtain ⟨⟨r, ρ1⟩, e1, e2⟩ := e
  cases e2
  refine h B σ H Hf ρ ρ1 r _ s e1 fun v H' Hf' s' t' rv => ?_
  obtain ⟨a, b⟩ := put_ok i s' t' rv
  exact q _ H' Hf' a b
theorem snd_asgLc {i : Nat} {x : Str} {np pos spos : Pos} {elt tg iter : Expr} {ifs : List Expr} {scope : Scope} {own : List (Str × Nat)} {it : It} {t : T} {c : Option E} {el : E} {is : List Nat} (hc : X.calm = true) (hN : X.N.Nodup) (hx : X.N[i]? = some x) (hxl : X.env.scope.names.lookup x = some .local)
    (hsw : swapsWith (.ListComp elt [⟨tg, iter, ifs, 0⟩] scope pos) (some (.Name x np)) spos.line X.env = pure true) (hi : SndI X tg iter (evI φ it)) (ok : BlkOk X.N X.env.scope scope own) (his : ∀ i ∈ is, i ∈ own.map (·.2))
    (hg : Blk X scope fun Y => SndG Y tg (setT t) is) (ht : Blk X scope fun Y => SndC Y ifs c φ) (he : Blk X scope fun Y => SndE Y elt (evE φ el)) (hs : ∀ x, foldedSetIterable iter X.env x = pure x) :
    SndS X (.Assign [.Name x np] (.ListComp elt [⟨tg, iter, ifs, 0⟩] scope pos) spos) (evS φ (.asg i (.lc el t it c (own.map (·.2))))) := by
  obtain ⟨wi, pi, hi⟩ := hi
  refine ⟨_, ps_setLc (g := tgS X.K (setT t) is) (tt := ttC X.K φ c) (te := teS X.K (evE φ el)) hc hN hx hxl hsw pi ok (fun s H C cl fp => hg s H C cl fp) (fun s H C cl fp => (ht s H C cl fp).pts) (fun s H C cl fp => (he s H C cl fp).pe) hs, fun B σ H Hf ρ ρ' f D s e q => ?_⟩
  simp only [evS] at e
  rw [Option.map_eq_some_iff] at e
  obtain ⟨⟨r, ρ1⟩, e1, e2⟩ := e
  cases e2
  refine lc_sem (tg := tg) (iter := iter) hi his B σ H Hf ρ ρ1 r _ s e1 fun v H' Hf' s' t' rv => ?_
  obtain ⟨a, b⟩ := put_ok i s' t' rv
  exact q _ H' Hf' a b
theorem snd_asgLc2 {i : Nat} {x : Str} {np pos spos : Pos} {elt tg iter tg1 iter1 : Expr} {ifs ifs1 : List Expr} {scope : Scope} {own : List (Str × Nat)} {vs1 : List Nat} {it it1 : It} {t t1 : T} {c c1 : Option E} {el : E} {is is1 : List Nat} (hc : X.calm = true) (hN : X.N.Nodup) (hx : X.N[i]? = some x) (hxl : X.env.scope.names.lookup x = some .local)
    (hsw : swapsWith (.ListComp elt [⟨tg, iter, ifs, 0⟩, ⟨tg1, iter1, ifs1, 0⟩] scope pos) (some (.Name x np)) spos.line X.env = pure true) (hi : SndI X tg iter (evI φ it)) (ok : BlkOk X.N X.env.scope scope own) (hv : ∀ i ∈ vs1, i ∈ own.map (·.2)) (his : ∀ i ∈ is, i ∈ own.map (·.2)) (his1 : ∀ i ∈ is1, i ∈ vs1)
    (hg : Blk X scope fun Y => SndG Y tg (setT t) is) (ht : Blk X scope fun Y => SndC Y ifs c φ) (hi1 : Blk X scope fun Y => SndI Y tg1 iter1 (evI φ it1))
    (hg1 : Blk X scope fun Y => SndG Y tg1 (setT t1) is1) (ht1 : Blk X scope fun Y => SndC Y ifs1 c1 φ) (he : Blk X scope fun Y => SndE Y elt (evE φ el)) (hs : ∀ x, foldedSetIterable iter X.env x = pure x) (hs1 : ∀ env x, foldedSetIterable iter1 env x = pure x) :
    SndS X (.Assign [.Name x np] (.ListComp elt [⟨tg, iter, ifs, 0⟩, ⟨tg1, iter1, ifs1, 0⟩] scope pos) spos) (evS φ (.asg i (.lc2 el t it c t1 it1 c1 (own.map (·.2)) vs1))) := by
  refine ⟨_, ps_setLc2 (wi := wiS X.K (evI φ it)) (wi1 := wiS X.K (evI φ it1)) (g := tgS X.K (setT t) is) (tt := ttC X.K φ c) (g1 := tgS X.K (setT t1) is1) (tt1 := ttC X.K φ c1) (te := teS X.K (evE φ el)) hc hN hx hxl hsw hi.pi ok hv (fun s H C cl fp => hg s H C cl fp) (fun s H C cl fp => (ht s H C cl fp).pts) (fun s H C cl fp => (hi1 s H C cl fp).pi) (fun s H C cl fp => hg1 s H C cl fp) (fun s H C cl fp => (ht1 s H C cl fp).pts) (fun s H C cl fp => (he s H C cl fp).pe) hs hs1, fun B σ H Hf ρ ρ' f D s e q => ?_⟩
  simp only [evS] at e
  rw [Option.map_eq_some_iff] at e
  obtain ⟨⟨r, ρ1⟩, e1, e2⟩ := e
  cases e2
  refine lc2_sem hv his his1 B σ H Hf ρ ρ1 r _ s e1 fun v H' Hf' s' t' rv => ?_
  obtain ⟨a, b⟩ := put_ok i s' t' rv
  exact q _ H' Hf' a b
theorem snd_uasg {tg e : Expr} {pos : Pos} {ts : List T} {is : List Nat} {c : E} (hs : swapsWithSole [tg] e pos.line X.env = pure false) (hw : swappedStores [tg] e X.env = pure none) (h1 : (assignEach [tg] X.env).map (·.2) = [assign tg X.env]) (hg : SndG X tg (setT (.tup ts)) is) (h : SndE X e (evE φ c)) : SndS X (.Assign [tg] e pos) (evS φ (.uasg ts c)) := by
  obtain ⟨te, p, h⟩ := h.dt
  refine ⟨_, ps_asg p hg hs hw h1, fun B σ H Hf ρ ρ' f D s e q => ?_⟩
  simp only [evS] at e
  obtain ⟨⟨r, ρ1⟩, e1, e⟩ := bindE e
  rw [Option.map_eq_some_iff] at e
  obtain ⟨ρ2, e2, e3⟩ := e
  cases e3
  refine h B σ H Hf ρ ρ1 r _ s e1 fun v H' Hf' s' t' rv => ?_
  exact ⟨B, Hf', ρ1, _, r.d, s', rv, e2, fun σ2 s2 t2 _ _ => q σ2 H' Hf' s2 (t'.trans t2)⟩
theorem snd_seti {i : Nat} {x : Str} {ix e : Expr} {np sp pos : Pos} {cix c : E} (hN : X.N[i]? = some x) (hv : Vis X.env.scope x) (hd : (x == ("__debug__" : Str)) = false) (hcd : (x == ("__classdict__" : Str)) = false) (hns : noSlice ix = true)
    (hs : swapsWithSole [.Subscript (.Name x np) ix sp] e pos.line X.env = pure false) (hw : swappedStores [.Subscript (.Name x np) ix sp] e X.env = pure none) (hix : SndE X ix (evE φ cix)) (h : SndE X e (evE φ c)) : SndS X (.Assign [.Subscript (.Name x np) ix sp] e pos) (evS φ (.seti i cix c)) := by
  obtain ⟨te, p, h⟩ := h.dt
  obtain ⟨ti, p2, hix⟩ := hix.dt
  refine ⟨_, ps_asg p (pg_sub (pe_var hN hv hd hcd) p2 set_list (fun v => by cases ix <;> first | rfl | (simp [noSlice] at hns))) hs hw rfl, fun B σ H Hf ρ ρ' f D s e q => ?_⟩
  simp only [evS] at e
  obtain ⟨⟨r, ρ1⟩, e1, e⟩ := bindE e
  by_cases ho : ownL ρ1 i = true
  case neg => rw [if_neg ho] at e; cases e
  rw [if_pos ho] at e
  obtain ⟨⟨r2, ρ2⟩, e2, e⟩ := bindE e
  dsimp only at e
  split at e
  · rename_i kk t ds hr hρ
    rw [Option.map_eq_some_iff] at e
    obtain ⟨j, e3, e⟩ := e
    cases e
    refine h B σ H Hf ρ ρ1 r _ s e1 fun v H1 Hf1 s1 t1 rv => ?_
    obtain ⟨t0, ds0, h0⟩ := ownL_c ho
    obtain ⟨w, _, hw, _⟩ := own_list s1 h0
    refine ⟨.ref w, hw, hix B σ H1 Hf1 ρ1 ρ2 r2 _ s1 e2 fun v2 H2 Hf2 s2 t2 rv2 => ?_⟩
    rw [hr] at rv2
    cases rv2
    obtain ⟨a, ys, m1, m2, m3, m4⟩ := own_list s2 hρ
    rw [hw] at m1; cases m1
    refine ⟨w, ys, kk, j, rfl, rfl, m2, by rw [m4.length]; exact e3, ?_⟩
    obtain ⟨s3, t3⟩ := mut_ok s2 hρ hw (ys := ys.set j v) (es := ds.set j r.d) (by rw [List.length_set]; exact m3) (m4.st (rv.mono t2.fz) j)
    exact q σ _ Hf2 s3 ((t1.trans t2).trans t3)
  · cases e
theorem noStarL {e : Expr} (h : noStar e = true) : [e].all noStar = true := by simp [h]
theorem snd_app {i : Nat} {x : Str} {e : Expr} {np apos cpos pos : Pos} {c : E} (hN : X.N[i]? = some x) (hv : Vis X.env.scope x) (hd : (x == ("__debug__" : Str)) = false) (hcd : (x == ("__classdict__" : Str)) = false) (hl : (apos.endLine == cpos.line) = true) (hs : noStar e = true)
    (h : SndE X e (evE φ c)) : SndS X (.Expr (.Call (.Attribute (.Name x np) "append" apos) [e] [] cpos) pos) (evS φ (.app i c)) := by
  obtain ⟨te, p, h⟩ := h.dt
  refine ⟨_, ps_expr (pe_bm PySem.F.plainAttrs_list PySem.F.slot_list_append PySem.F.type_list_append mt_append (pe_var hN hv hd hcd) (pa_cons p pa_nil (starEach_no hs)) base_name (few1 hs) hl (starEach_no hs) rfl) rfl, fun B σ H Hf ρ ρ' f D s e q => ?_⟩
  simp only [evS] at e
  by_cases ho : ownL ρ i = true
  case neg => rw [if_neg ho] at e; cases e
  rw [if_pos ho] at e
  obtain ⟨⟨r, ρ1⟩, e1, e⟩ := bindE e
  obtain ⟨t0, ds0, h0⟩ := ownL_c ho
  obtain ⟨a, xs, k1, k2, k3, k4⟩ := own_list s h0
  refine ⟨.ref a, k1, .inl ⟨rfl, _, SqL.of k2⟩, h B σ H Hf ρ ρ1 r _ s e1 fun v H1 Hf1 s1 t1 rv => ?_⟩
  dsimp only at e
  split at e
  · rename_i t ds hρ
    split at e
    · rename_i hz
      cases e
      obtain ⟨a', ys, m1, m2, m3, m4⟩ := own_list s1 hρ
      rw [k1] at m1; cases m1
      have hz' : ys.length < sizeLine := by rw [m4.length, sizeLine_eq]; exact hz
      obtain ⟨s2, t2⟩ := mut_ok s1 hρ k1 (ys := ys ++ [v]) (es := ds ++ [r.d]) (by rw [List.length_append]; exact hz') (m4.app (.cons rv .nil))
      exact ⟨a, ys, v, rfl, rfl, m2, hz', q σ _ Hf1 s2 (t1.trans t2)⟩
    · cases e
  · cases e
theorem snd_ext {i : Nat} {x : Str} {e : Expr} {np apos cpos pos : Pos} {c : E} (hN : X.N[i]? = some x) (hv : Vis X.env.scope x) (hd : (x == ("__debug__" : Str)) = false) (hcd : (x == ("__classdict__" : Str)) = false) (hl : (apos.endLine == cpos.line) = true) (hs : noStar e = true)
    (h : SndE X e (evE φ c)) : SndS X (.Expr (.Call (.Attribute (.Name x np) "extend" apos) [e] [] cpos) pos) (evS φ (.ext i c)) := by
  obtain ⟨te, p, h⟩ := h.dt
  refine ⟨_, ps_expr (pe_bm PySem.F.plainAttrs_list PySem.F.slot_list_extend PySem.F.type_list_extend mt_extend (pe_var hN hv hd hcd) (pa_cons p pa_nil (starEach_no hs)) base_name (few1 hs) hl (starEach_no hs) rfl) rfl, fun B σ H Hf ρ ρ' f D s e q => ?_⟩
  simp only [evS] at e
  by_cases ho : ownL ρ i = true
  case neg => rw [if_neg ho] at e; cases e
  rw [if_pos ho] at e
  obtain ⟨⟨r, ρ1⟩, e1, e⟩ := bindE e
  obtain ⟨t0, ds0, h0⟩ := ownL_c ho
  obtain ⟨a, xs, k1, k2, k3, k4⟩ := own_list s h0
  refine ⟨.ref a, k1, .inl ⟨rfl, _, SqL.of k2⟩, h B σ H Hf ρ ρ1 r _ s e1 fun v H1 Hf1 s1 t1 rv => ?_⟩
  dsimp only at e
  split at e
  · rename_i zs t ds hr hρ
    split at e
    · rename_i hz
      cases e
      rw [hr] at rv
      cases rv with
      | lst hb hzb rb =>
        obtain ⟨a', ys, m1, m2, m3, m4⟩ := own_list s1 hρ
        rw [k1] at m1; cases m1
        rename_i b bs
        have hz' : ys.length + bs.length ≤ sizeLine := by rw [m4.length, rb.length, sizeLine_eq]; exact hz
        obtain ⟨s2, t2⟩ := mut_ok s1 hρ k1 (ys := ys ++ bs) (es := ds ++ zs) (by rw [List.length_append]; exact hz') (m4.app rb)
        exact ⟨a, b, ys, bs, rfl, rfl, m2, s1.sub _ _ hb, hz', q σ _ Hf1 s2 (t1.trans t2)⟩
    · cases e
  · cases e
/-! ### a, b = x, y -/
theorem evV_two {a b : E} {r : Rho} {vs : List SV} {r' : Rho} (h : evV φ [a, b] r = some (vs, r')) : ∃ x y r1, evE φ a r = some (x, r1) ∧ evE φ b r1 = some (y, r') ∧ vs = [x, y] := by
  simp only [evV] at h
  obtain ⟨⟨x, r1⟩, h1, h⟩ := bindE h
  rw [Option.map_eq_some_iff] at h
  obtain ⟨⟨ys, r2⟩, h2, h⟩ := h
  obtain ⟨⟨y, r3⟩, h3, h2⟩ := bindE h2
  simp at h2
  cases h
  obtain ⟨rfl, rfl⟩ := h2
  exact ⟨x, y, r1, h1, h3, rfl⟩
theorem evV_three {a b c : E} {r : Rho} {vs : List SV} {r' : Rho} (h : evV φ [a, b, c] r = some (vs, r')) : ∃ x y z r1 r2, evE φ a r = some (x, r1) ∧ evE φ b r1 = some (y, r2) ∧ evE φ c r2 = some (z, r') ∧ vs = [x, y, z] := by
  simp only [evV] at h
  obtain ⟨⟨x, r1⟩, h1, h⟩ := bindE h
  rw [Option.map_eq_some_iff] at h
  obtain ⟨⟨ys, r2⟩, h2, h⟩ := h
  obtain ⟨⟨y, r3⟩, h3, h2⟩ := bindE h2
  rw [Option.map_eq_some_iff] at h2
  obtain ⟨⟨zs, r4⟩, h4, h2⟩ := h2
  obtain ⟨⟨z, r5⟩, h5, h4⟩ := bindE h4
  simp at h4
  cases h
  cases h2
  obtain ⟨rfl, rfl⟩ := h4
  exact ⟨x, y, z, r1, r3, h1, h3, h5, rfl⟩
/-- of two values at once the second knows nothing of the first -/
theorem rpv_apart {K : Fg} {σ0 σ : Sg} {ρ0 ρ1 ρ2 : Rho} {H0 H1 H2 Hf1 Hf2 : Hp} {v w : V} {r q : SV} {i : Nat} {σ' : Sg} {ρ' : Rho} (h : RpV K σ0 ρ0 H0 σ ρ1 H1 Hf1 v r) (k : RpV K σ ρ1 H1 σ ρ2 H2 Hf2 w q) (hi : σ' = σ.set i (some v)) (hr : ρ' = ρ2.set i (some (setV r))) (hl : ρ2.length = σ.length) : RpV K σ ρ1 H1 σ' ρ' H2 Hf2 w q := by
  cases q with
  | dat d => exact k
  | own u d =>
    obtain ⟨a, o, h1, h2, h3, h4, h5, h6⟩ := k
    refine ⟨a, o, h1, h2, h3, h4, ?_, h6⟩
    rintro ⟨j, t, e, q1, q2⟩
    subst hi hr
    rcases set_get q1 with ⟨rfl, z, hlt⟩ | ⟨n, q1⟩
    · rw [List.getElem?_set_self (by rw [← hl]; exact hlt)] at q2
      cases q2
      cases r with
      | dat d' => cases z
      | own u' d' =>
        obtain ⟨b, o', m1, m2, m3, m4, m5, m6⟩ := h
        cases m1
        rcases h6 with y | y
        · rw [m2] at y; cases y
        · exact m5 y
    · rw [List.getElem?_set_ne n] at q2
      exact h5 ⟨j, t, e, q1, q2⟩
theorem rpv_apart3 {K : Fg} {σ0 σ σ1 : Sg} {ρ0 ρ1 ρ2 ρ3 : Rho} {H0 H1 H2 Hf1 Hf2 : Hp} {v w : V} {r q : SV} {i : Nat} (h : RpV K σ0 ρ0 H0 σ ρ1 H1 Hf1 v r) (k : RpV K σ ρ1 H1 σ ρ2 H2 Hf2 w q) (k' : RpV K σ ρ1 H1 σ1 ρ3 H2 Hf2 w q) (hl : ρ3.length = σ1.length) : RpV K σ ρ1 H1 (σ1.set i (some v)) (ρ3.set i (some (setV r))) H2 Hf2 w q := by
  cases q with
  | dat d => exact k
  | own u d =>
    obtain ⟨a, o, h1, h2, h3, h4, h5, h6⟩ := k
    obtain ⟨a', o', h1', h2', h3', h4', h5', h6'⟩ := k'
    rw [h1] at h1'; cases h1'
    refine ⟨a, o, h1, h2, h3, h4, ?_, h6⟩
    rintro ⟨j, t, e, q1, q2⟩
    rcases set_get q1 with ⟨rfl, z, hlt⟩ | ⟨n, q1⟩
    · rw [List.getElem?_set_self (by rw [← hl]; exact hlt)] at q2
      cases q2
      cases r with
      | dat d' => cases z
      | own u' d' =>
        obtain ⟨b, o', m1, m2, m3, m4, m5, m6⟩ := h
        cases m1
        rcases h6 with y | y
        · rw [m2] at y; cases y
        · exact m5 y
    · rw [List.getElem?_set_ne n] at q2
      exact h5' ⟨j, t, e, q1, q2⟩
theorem snd_par2 {i j : Nat} {x y : Str} {a b : Expr} {px py pt pos : Pos} {kt k2 : Nat} {pt2 : Pos} {ca cb : E} (hc : X.calm = true) (hN : X.N.Nodup) (hi : X.N[i]? = some x) (hj : X.N[j]? = some y) (hij : i ≠ j)
    (hx : X.env.scope.names.lookup x = some .local) (hy : X.env.scope.names.lookup y = some .local) (hna : noStar a = true) (hnb : noStar b = true)
    (hw : swappedStores [.Tuple [.Name x px, .Name y py] kt pt] (.Tuple [a, b] k2 pt2) X.env = pure (some [x, y])) (ha : SndE X a (evE φ ca)) (hb : SndE X b (evE φ cb)) :
    SndS X (.Assign [.Tuple [.Name x px, .Name y py] kt pt] (.Tuple [a, b] k2 pt2) pos) (evS φ (.pasg [i, j] [ca, cb])) := by
  obtain ⟨ta, p1, h1⟩ := ha
  obtain ⟨tb, p2, h2⟩ := hb
  refine ⟨_, ps_par hc hN hi hj hij hx hy (pa_cons p1 (pa_cons p2 pa_nil (starEach_no hnb)) (starEach_no hna)) hw rfl, fun B σ H Hf ρ ρ' f D s e q => ?_⟩
  simp only [evS] at e
  obtain ⟨⟨vs, ρ2⟩, e1, e⟩ := bindE e
  rw [Option.map_eq_some_iff] at e
  obtain ⟨ρ3, e2, e3⟩ := e
  cases e3
  obtain ⟨r1, r2, ρ1, f1, f2, rfl⟩ := evV_two e1
  simp only [setVs] at e2
  cases e2
  refine h1 B σ H Hf ρ ρ1 r1 _ s f1 fun v1 H1 Hf1 s1 t1 rv1 => ?_
  refine h2 B σ H1 Hf1 ρ1 ρ2 r2 _ s1 f2 fun v2 H2 Hf2 s2 t2 rv2 => ?_
  refine ⟨v1, v2, rfl, ?_⟩
  obtain ⟨s3, t3⟩ := put_ok i s2 (t1.trans t2) (rv1.fwd t2)
  obtain ⟨s4, t4⟩ := put_ok j s3 t3 (RpV.back2 t1 (rpv_apart rv1 rv2 rfl rfl s2.len))
  exact q _ H2 Hf2 s4 t4
theorem snd_par3 {i j l : Nat} {x y z : Str} {a b c : Expr} {px py pz pt pos : Pos} {kt k2 : Nat} {pt2 : Pos} {ca cb cc : E} (hc : X.calm = true) (hN : X.N.Nodup) (hi : X.N[i]? = some x) (hj : X.N[j]? = some y) (hl : X.N[l]? = some z) (hij : i ≠ j) (hil : i ≠ l) (hjl : j ≠ l)
    (hx : X.env.scope.names.lookup x = some .local) (hy : X.env.scope.names.lookup y = some .local) (hzz : X.env.scope.names.lookup z = some .local) (hna : noStar a = true) (hnb : noStar b = true) (hnc : noStar c = true)
    (hw : swappedStores [.Tuple [.Name x px, .Name y py, .Name z pz] kt pt] (.Tuple [a, b, c] k2 pt2) X.env = pure (some [x, y, z])) (ha : SndE X a (evE φ ca)) (hb : SndE X b (evE φ cb)) (hcc : SndE X c (evE φ cc)) :
    SndS X (.Assign [.Tuple [.Name x px, .Name y py, .Name z pz] kt pt] (.Tuple [a, b, c] k2 pt2) pos) (evS φ (.pasg [i, j, l] [ca, cb, cc])) := by
  obtain ⟨ta, p1, h1⟩ := ha
  obtain ⟨tb, p2, h2⟩ := hb
  obtain ⟨tc, p3, h3⟩ := hcc
  refine ⟨_, ps_par3 hc hN hi hj hl hij hil hjl hx hy hzz (pa_cons p1 (pa_cons p2 (pa_cons p3 pa_nil (starEach_no hnc)) (starEach_no hnb)) (starEach_no hna)) hw rfl, fun B σ H Hf ρ ρ' f D s e q => ?_⟩
  simp only [evS] at e
  obtain ⟨⟨vs, ρ3⟩, e1, e⟩ := bindE e
  rw [Option.map_eq_some_iff] at e
  obtain ⟨ρ4, e2, e3⟩ := e
  cases e3
  obtain ⟨r1, r2, r3, ρ1, ρ2, f1, f2, f3, rfl⟩ := evV_three e1
  simp only [setVs] at e2
  cases e2
  refine h1 B σ H Hf ρ ρ1 r1 _ s f1 fun v1 H1 Hf1 s1 t1 rv1 => ?_
  refine h2 B σ H1 Hf1 ρ1 ρ2 r2 _ s1 f2 fun v2 H2 Hf2 s2 t2 rv2 => ?_
  refine h3 B σ H2 Hf2 ρ2 ρ3 r3 _ s2 f3 fun v3 H3 Hf3 s3 t3 rv3 => ?_
  refine ⟨v1, v2, v3, rfl, ?_⟩
  obtain ⟨s4, t4⟩ := put_ok i s3 ((t1.trans t2).trans t3) ((rv1.fwd t2).fwd t3)
  have a2 := rpv_apart rv1 (rv2.fwd t3) (i := i) rfl rfl s3.len
  obtain ⟨s5, t5⟩ := put_ok j s4 t4 (RpV.back2 t1 a2)
  have a3 := rpv_apart (rv1.fwd t2) rv3 (i := i) rfl rfl s3.len
  have a4 := rpv_apart3 rv2 rv3 (i := j) a3 s4.len
  obtain ⟨s6, t6⟩ := put_ok l s5 t5 (RpV.back2 (t1.trans t2) a4)
  exact q _ H3 Hf3 s6 t6
end
end LI

set_option Elab.async false
set_option linter.all false
set_option autoImplicit false
set_option maxRecDepth 100000
set_option maxHeartbeats 4000000
namespace LI
open PySem PySem.Spec PyProof.Rows L2
/-! ### loops -/
section
variable {X : Cx} {φ : Fn}
theorem evV_len : ∀ {cs : List E} {ρ : Rho} {rs : List SV} {ρ' : Rho}, evV φ cs ρ = some (rs, ρ') → rs.length = cs.length
  | [], ρ, rs, ρ', h => by simp only [evV] at h; cases h; rfl
  | c :: cs, ρ, rs, ρ', h => by
    simp only [evV] at h
    obtain ⟨⟨r, ρ1⟩, e1, h⟩ := bindE h
    rw [Option.map_eq_some_iff] at h
    obtain ⟨⟨rs2, ρ2⟩, e2, h⟩ := h
    cases h
    rw [List.length_cons, List.length_cons, evV_len e2]
theorem snd_for {tg iter : Expr} {body : List Stmt} {pos : Pos} {t : T} {it : It} {cb : List S} {is : List Nat} (hp : PassesOwn (model X.prog X.w) X.A X.env X.xe) (hc : X.calm = true) (hi : SndI X tg iter (evI φ it)) (hg : SndG X tg (setT t) is) (hb : SndSs X body (evSs φ cb)) (hs : ∀ x, foldedSetIterable iter X.env x = pure x) :
    SndS X (.For tg iter body [] pos) (evS φ (.forS t it cb)) := by
  obtain ⟨wi, pi, hi⟩ := hi
  obtain ⟨tb, pb, hb⟩ := hb
  refine ⟨_, ps_for hp hc pi hg pb hs, fun B σ H Hf ρ ρ' f D s e q => ?_⟩
  simp only [evS] at e
  obtain ⟨⟨items, ρ1⟩, e1, e⟩ := bindE e
  dsimp only at e
  refine hi B σ H Hf ρ ρ1 items _ s e1 fun J H1 Hf1 s1 t1 w hz => ?_
  have q := q.back t1
  refine for_it (w.mono (G' := fun H => Same Hf1 H) (fun _ h => h) (fun _ _ _ _ _ _ y => y)) (fun i σi Hi => ∃ ρi Hfi, SRel X.K B σi Hi Hfi ρi ∧ Step σ ρ1 H1 Hf1 σi ρi Hi Hfi ∧ loopFor (fun x r1 => (setT t x r1).bind fun r2 => evSs φ cb r2) (items.drop i) ρi = some (f, ρ')) ⟨ρ1, Hf1, s1, Step.refl, e⟩
    (fun i σi Hi _ ⟨ρi, Hfi, si, ti, _⟩ => ti.fz.trans si.sub) (fun i x σi Hi H' hlt ⟨ρi, Hfi, si, ti, el⟩ y => ?_) (fun σi Hi ⟨ρi, Hfi, si, ti, el⟩ => ?_)
  · obtain ⟨d, hd', yp⟩ := y
    obtain ⟨Hf', s', t', r'⟩ := ppost si (yp Hfi ti.fz si.sub)
    have r' : Rp X.K Hf' x d := r'
    rw [List.drop_eq_getElem_cons hlt] at el
    have ed : items[i] = d := by rw [List.getElem?_eq_getElem hlt] at hd'; cases hd'; rfl
    rw [ed] at el
    simp only [loopFor] at el
    obtain ⟨⟨fl, ρ4⟩, f1, el⟩ := bindE el
    obtain ⟨ρ2, f2, f3⟩ := bindE f1
    refine ⟨B, Hf', ρi, ρ2, d, s', r', f2, fun σ2 s2 t2 _ _ => ?_⟩
    have tt := (ti.trans t').trans t2
    cases fl with
    | nx => exact hb B σ2 H' Hf' ρ2 ρ4 .nx _ s2 f3 fun σ3 H3 Hf3 s3 t3 => ⟨ρ4, Hf3, s3, tt.trans t3, el⟩
    | cont => exact hb B σ2 H' Hf' ρ2 ρ4 .cont _ s2 f3 fun σ3 H3 Hf3 s3 t3 => ⟨ρ4, Hf3, s3, tt.trans t3, el⟩
    | brk => cases el; exact hb B σ2 H' Hf' ρ2 _ .brk _ s2 f3 (q.back tt)
    | ret v => cases el; exact hb B σ2 H' Hf' ρ2 _ (.ret v) _ s2 f3 (q.back tt)
  · rw [List.drop_length] at el
    simp only [loopFor] at el
    cases el
    exact q σi Hi Hfi si ti
theorem snd_while {c : Expr} {body : List Stmt} {pos : Pos} {cc : E} {cb : List S} (hp : PassesOwn (model X.prog X.w) X.A X.env X.xe) (hc : SndT X c (evT φ cc)) (hb : SndSs X body (evSs φ cb)) : SndS X (.While c body [] pos) (evS φ (.whileS cc cb)) := by
  obtain ⟨tc, pc, hc⟩ := hc
  obtain ⟨tb, pb, hb⟩ := hb
  refine ⟨_, ps_while hp pc pb, fun B σ H Hf ρ ρ' f D s e q => ?_⟩
  simp only [evS] at e
  refine ⟨fun m σi Hi => ∃ ρi Hfi, SRel X.K B σi Hi Hfi ρi ∧ Step σ ρ H Hf σi ρi Hi Hfi ∧ loopWh (fun r1 => evT φ cc r1) (fun r1 => evSs φ cb r1) m ρi = some (f, ρ'), ⟨wfuel, ρ, Hf, s, Step.refl, e⟩, ?_⟩
  rintro m σi Hi ⟨ρi, Hfi, si, ti, el⟩
  cases m with
  | zero => simp [loopWh] at el
  | succ n =>
    simp only [loopWh] at el
    obtain ⟨⟨b, ρ1⟩, e1, el⟩ := bindE el
    refine hc B σi Hi Hfi ρi ρ1 b _ si e1 fun H1 Hf1 s1 t1 => ?_
    have t1 := ti.trans t1
    cases b with
    | false =>
      simp only [Bool.false_eq_true, if_false] at el ⊢
      cases el
      exact q σi H1 Hf1 s1 t1
    | true =>
      simp only [if_true] at el ⊢
      obtain ⟨⟨fl, ρ2⟩, e2, el⟩ := bindE el
      refine ⟨fun σ' H' => ∃ ρi Hfi, SRel X.K B σ' H' Hfi ρi ∧ Step σ ρ H Hf σ' ρi H' Hfi ∧ loopWh (fun r1 => evT φ cc r1) (fun r1 => evSs φ cb r1) n ρi = some (f, ρ'), fun σ' H' h => ⟨n, Nat.lt_succ_self n, h⟩, ?_⟩
      cases fl with
      | nx => exact hb B σi H1 Hf1 ρ1 ρ2 .nx _ s1 e2 fun σ3 H3 Hf3 s3 t3 => ⟨ρ2, Hf3, s3, t1.trans t3, el⟩
      | cont => exact hb B σi H1 Hf1 ρ1 ρ2 .cont _ s1 e2 fun σ3 H3 Hf3 s3 t3 => ⟨ρ2, Hf3, s3, t1.trans t3, el⟩
      | brk => cases el; exact hb B σi H1 Hf1 ρ1 _ .brk _ s1 e2 (q.back t1)
      | ret v => cases el; exact hb B σi H1 Hf1 ρ1 _ (.ret v) _ s1 e2 (q.back t1)
/-! ### a, b, .. = x, y, .. one behind another -/
structure VsR (K : Fg) (σ0 : Sg) (ρ0 : Rho) (H0 : Hp) (σ : Sg) (ρ : Rho) (H Hf : Hp) (vs : List V) (rs : List SV) : Prop where
  len : vs.length = rs.length
  at_ : ∀ (j : Nat) (v : V) (r : SV), vs[j]? = some v → rs[j]? = some r → RpV K σ0 ρ0 H0 σ ρ H Hf v r
  dis : ∀ (i j : Nat) (t u : Option Nat) (d e : PyData) (a : Addr), rs[i]? = some (.own t d) → rs[j]? = some (.own u e) → vs[i]? = some (.ref a) → vs[j]? = some (.ref a) → i = j
def SndV (X : Cx) (es : List Expr) (ev : Rho → Option (List SV × Rho)) : Prop :=
  ∃ ts, PEs X es ts ∧ ∀ (B : List V) (σ : Sg) (H Hf : Hp) (ρ ρ' : Rho) (rs : List SV) (Q : List V → Hp → Prop), SRel X.K B σ H Hf ρ → ev ρ = some (rs, ρ') →
    (∀ vs H' Hf', SRel X.K B σ H' Hf' ρ' → Step σ ρ H Hf σ ρ' H' Hf' → VsR X.K σ ρ H σ ρ' H' Hf' vs rs → Q vs H') → tL ts σ H Q
theorem sndV_nil : SndV X [] (evV φ []) := by
  refine ⟨_, .nil, fun B σ H Hf ρ ρ' rs Q s e q => ?_⟩
  simp only [evV] at e
  cases e
  exact q [] H Hf s Step.refl ⟨rfl, fun j v r h => by simp at h, fun i j t u d e a h => by simp at h⟩
theorem sndV_cons {e : Expr} {es : List Expr} {c : E} {cs : List E} (h : SndE X e (evE φ c)) (k : SndV X es (evV φ cs)) : SndV X (e :: es) (evV φ (c :: cs)) := by
  obtain ⟨te, p1, h1⟩ := h
  obtain ⟨ts, p2, h2⟩ := k
  refine ⟨_, .cons p1 p2, fun B σ H Hf ρ ρ' rs Q s e q => ?_⟩
  simp only [evV] at e
  obtain ⟨⟨r, ρ1⟩, e1, e⟩ := bindE e
  rw [Option.map_eq_some_iff] at e
  obtain ⟨⟨rs2, ρ2⟩, e2, e⟩ := e
  cases e
  refine h1 B σ H Hf ρ ρ1 r _ s e1 fun v H1 Hf1 s1 t1 rv => ?_
  refine h2 B σ H1 Hf1 ρ1 _ rs2 _ s1 e2 fun vs H2 Hf2 s2 t2 W => ?_
  have rv2 := rv.fwd t2
  have cr : ∀ (j : Nat) (t u : Option Nat) (d e : PyData) (a : Addr), r = .own t d → rs2[j]? = some (.own u e) → v = .ref a → vs[j]? = some (.ref a) → False := by
    intro j t u d e a hr hj hv hvj
    subst hr hv
    obtain ⟨a1, o1, z1, m2, m3, m4, m5, m6⟩ := rv
    cases z1
    obtain ⟨a2, o2, z2, n2, n3, n4, n5, n6⟩ := W.at_ j _ _ hvj hj
    cases z2
    rcases n6 with y | y
    · rw [m2] at y; cases y
    · exact m5 y
  refine q _ H2 Hf2 s2 (t1.trans t2) ⟨by rw [List.length_cons, List.length_cons, W.len], fun j w x hj hx => ?_, fun i j t u d e a hi hj hvi hvj => ?_⟩
  · cases j with
    | zero => simp at hj hx; subst hj hx; exact rv2
    | succ j => exact RpV.back t1 (W.at_ j w x (by simpa using hj) (by simpa using hx))
  · cases i with
    | zero =>
      cases j with
      | zero => rfl
      | succ j =>
        simp at hi hj hvi hvj
        exact (cr j t u d e a hi hj hvi hvj).elim
    | succ i =>
      cases j with
      | zero =>
        simp at hi hj hvi hvj
        exact (cr i u t e d a hj hi hvj hvi).elim
      | succ j =>
        simp at hi hj hvi hvj
        rw [W.dis i j t u d e a hi hj hvi hvj]
/-- names, stored one behind another -/
def gNames : List Nat → TGs
  | [] => fun vs σ H Q => vs = [] ∧ Q σ H
  | i :: is => fun vs σ H Q => ∃ v r, vs = v :: r ∧ gNames is r (σ.set i (some v)) H Q
theorem pgs_names {is : List Nat} (hN : X.N.Nodup) : ∀ {is : List Nat} {es : List Expr}, Paired (fun i e => ∃ x p, e = Expr.Name x p ∧ X.N[i]? = some x ∧ L2.Loc X.env.scope x ∧ (X.fn x = true ∨ X.env.scope.names.lookup x = some .local)) is es → PGs X es (gNames is)
  | _, _, .nil => pgs_nil
  | _, _, .cons (a := i) h t => by
    obtain ⟨x, p, rfl, h1, h2, h3⟩ := h
    exact pgs_cons (pg_name hN h1 h2 h3) (pgs_names (is := []) hN t) rfl
theorem setVs_ok {K : Fg} {B : List V} {σ0 : Sg} {ρ0 : Rho} {H0 Hf0 H Hf : Hp} {Q : Sg → Hp → Prop} : ∀ {is : List Nat} {vs : List V} {rs : List SV} {σ : Sg} {ρ ρ' : Rho}, SRel K B σ H Hf ρ → Step σ0 ρ0 H0 Hf0 σ ρ H Hf → VsR K σ0 ρ0 H0 σ ρ H Hf vs rs → setVs is rs ρ = some ρ' →
    (∀ σ', SRel K B σ' H Hf ρ' → Step σ0 ρ0 H0 Hf0 σ' ρ' H Hf → Q σ' H) → gNames is vs σ H Q
  | [], vs, rs, σ, ρ, ρ', s, t, W, e, q => by
    cases rs with
    | cons _ _ => simp [setVs] at e
    | nil =>
      simp only [setVs] at e
      cases e
      exact ⟨List.eq_nil_of_length_eq_zero W.len, q σ s t⟩
  | i :: is, vs, rs, σ, ρ, ρ', s, t, W, e, q => by
    cases rs with
    | nil => simp [setVs] at e
    | cons r rs =>
      simp only [setVs] at e
      cases vs with
      | nil => exact absurd W.len (by simp)
      | cons v vs =>
        have rv := W.at_ 0 v r rfl rfl
        obtain ⟨s1, t1⟩ := put_ok i s t rv
        refine ⟨v, vs, rfl, setVs_ok s1 t1 ⟨by have := W.len; simpa using this, fun j w x hj hx => ?_, fun a b t' u d e' c h1 h2 h3 h4 => ?_⟩ e q⟩
        · have rw' := W.at_ (j + 1) w x (by simpa using hj) (by simpa using hx)
          cases x with
          | dat d => exact rw'
          | own u d =>
            obtain ⟨a, o, z, m2, m3, m4, m5, m6⟩ := rw'
            subst z
            refine ⟨a, o, rfl, m2, m3, m4, ?_, m6⟩
            rintro ⟨l, t', d', q1, q2⟩
            rcases set_get q1 with ⟨rfl, z, hlt⟩ | ⟨n, q1⟩
            · rw [List.getElem?_set_self (by rw [← s.len]; exact hlt)] at q2
              cases q2
              cases r with
              | dat d'' => cases z
              | own u' d'' => exact absurd (W.dis 0 (j + 1) u' u d'' d a rfl (by simpa using hx) rfl (by simpa using hj)) (by omega)
            · rw [List.getElem?_set_ne n] at q2
              exact m5 ⟨l, t', d', q1, q2⟩
        · have := W.dis (a + 1) (b + 1) t' u d e' c (by simpa using h1) (by simpa using h2) (by simpa using h3) (by simpa using h4)
          omega
theorem gTup_mono {K : Fg} {g : TGs} {n : Nat} {v : V} {σ : Sg} {H : Hp} {Q : Sg → Hp → Prop} {a : Addr} {xs : List V} (h1 : v = .ref a) (h2 : SqT K H a xs) (h3 : xs.length = n) (h4 : g xs σ H Q) : ∃ a xs, v = .ref a ∧ SqT K H a xs ∧ xs.length = n ∧ g xs σ H Q := ⟨a, xs, h1, h2, h3, h4⟩
theorem snd_parU {tgs es : List Expr} {is : List Nat} {cs : List E} {kt k2 : Nat} {pt pt2 pos : Pos} (hc : X.calm = true) (hN : X.N.Nodup) (hst : tgs.all noStar = true) (hse : es.all noStar = true) (hl : tgs.length = es.length) (hlc : cs.length = es.length) (hsz : es.length ≤ 1000)
    (hp : Paired (fun i e => ∃ x p, e = Expr.Name x p ∧ X.N[i]? = some x ∧ L2.Loc X.env.scope x ∧ (X.fn x = true ∨ X.env.scope.names.lookup x = some .local)) is tgs)
    (hw : swappedStores [.Tuple tgs kt pt] (.Tuple es k2 pt2) X.env = pure none) (h : SndV X es (evV φ cs)) : SndS X (.Assign [.Tuple tgs kt pt] (.Tuple es k2 pt2) pos) (evS φ (.pasg is cs)) := by
  obtain ⟨ts, p1, h1⟩ := h
  refine ⟨_, ps_asg (pe_tup (p1.pa hse)) (pg_tup (n := tgs.length) hc (pgs_names (is := []) hN hp) (assignEach_len tgs) (assignEach_st tgs hst)) rfl hw rfl, fun B σ H Hf ρ ρ' f D s e q => ?_⟩
  simp only [evS] at e
  obtain ⟨⟨rs, ρ1⟩, e1, e⟩ := bindE e
  rw [Option.map_eq_some_iff] at e
  obtain ⟨ρ2, e2, e3⟩ := e
  cases e3
  have hrl : rs.length = cs.length := evV_len e1
  refine h1 B σ H Hf ρ ρ1 rs _ s e1 fun vs H1 Hf1 s1 t1 W => ⟨?_, fun p n => ?_⟩
  · rw [W.len, hrl, hlc, sizeLine_eq]; omega
  · have nf : Hf1 p = none := s1.sub.free n
    have no : ¬ Owns σ ρ1 p := by
      rintro ⟨i, t, d, q1, q2⟩
      obtain ⟨a, o, k1, k2, _⟩ := s1.own i t d q1
      rw [q2] at k1; cases k1
      rw [n] at k2; cases k2
    have s2 : SRel X.K B σ (upd H1 p (.tup vs)) Hf1 ρ1 := s1.upd nf no
    have t2 : Step σ ρ1 H1 Hf1 σ ρ1 (upd H1 p (.tup vs)) Hf1 := Step.refl.upd n
    refine gTup_mono rfl (SqT.of upd_same) (by rw [W.len, hrl, hlc, hl]) (setVs_ok s2 (t1.trans t2) ⟨W.len, fun j v r hj hr => (W.at_ j v r hj hr).fwd t2, W.dis⟩ e2 fun σ' s' t' => q σ' _ Hf1 s' t')
end
end LI

set_option Elab.async false
set_option linter.all false
set_option autoImplicit false
set_option maxRecDepth 100000
set_option maxHeartbeats 4000000
namespace LI
open PySem PySem.Spec PyProof.Rows L2
/-- what a check knows of a place -/
structure Ck where
  N : List Str
  sc : Scope
  top : Option Scope
  fs : List Str
  gi : List (Str × Int)
  kb : List (Str × List Str × List Nat)
def bnL : List Str := ["len", "tuple", "list", "sorted", "set", "abs", "int", "min", "max", "all", "any", "sum", "isinstance", "range", "enumerate", "zip", "bool", "str", "dict"]
structure Good (X : Cx) (φ : Fn) (ck : Ck) : Prop where
  N : X.N = ck.N
  nd : X.N.Nodup
  sc : X.env.scope = ck.sc
  kind : X.env.scope.kind = .function
  calm : X.calm = true
  un : X.A.units + 65 < cLine
  fn : ∀ x, (match ck.top with | none => true | some sc => sc.names.lookup x == some .cell) = true → X.fn x = true
  fs : ∀ x ∈ ck.fs, ∃ f fd ps k, FOk X.prog X.w X.K X.mg X.base k φ x f fd ps ∧ Room k X.A
  bi : ∀ x ∈ bnL, X.mg x = none
  gi : ∀ p ∈ ck.gi, ∃ u, X.mg p.1 = some u ∧ RelV (.int p.2) u
  kb : ∀ q ∈ ck.kb, ∃ f fd ps k, FOk X.prog X.w X.K X.mg X.base k φ q.1 f fd ps ∧ Room k X.A ∧ KwB X.K fd ps q.2.1 q.2.2
  xe : X.xe = fun _ _ => False
def Ck.blk (ck : Ck) (scope : Scope) : Ck := { ck with sc := relS scope ck.sc, top := some scope }
theorem Good.blk {X : Cx} {φ : Fn} {ck : Ck} (g : Good X φ ck) {scope : Scope} (hk : scope.kind = .function) : Blk X scope fun Y => Good Y φ (ck.blk scope) := fun s H C cl fp =>
  ⟨g.N, g.nd, by
    show relabel scope X.env = relS scope ck.sc
    rw [← g.sc]; rfl, hk, g.calm, g.un, fun x h => h, g.fs, g.bi, g.gi, g.kb, rfl⟩
def glB (ck : Ck) (x : Str) : Bool := decide (ck.sc.names.lookup x = some .globalImplicit)
theorem Good.gl {X : Cx} {φ : Fn} {ck : Ck} {x : Str} (g : Good X φ ck) (h : glB ck x = true) : Gl X x := by
  have h := of_decide_eq_true h
  show X.env.scope.names.lookup x = _
  rw [g.sc]; exact h
def visK : Option NameKind → Bool
  | some .local | some .cell | some .free => true
  | _ => false
def okN (x : Str) : Bool := !(x == ("__debug__" : Str)) && !(x == ("__classdict__" : Str))
def visB (ck : Ck) (i : Nat) (x : Str) : Bool := decide (ck.N[i]? = some x) && visK (ck.sc.names.lookup x) && okN x
theorem okN_c {x : Str} (h : okN x = true) : (x == ("__debug__" : Str)) = false ∧ (x == ("__classdict__" : Str)) = false := by
  unfold okN at h
  rw [Bool.and_eq_true] at h
  exact ⟨by simpa using h.1, by simpa using h.2⟩
theorem Good.vis {X : Cx} {φ : Fn} {ck : Ck} {i : Nat} {x : Str} (g : Good X φ ck) (h : visB ck i x = true) : X.N[i]? = some x ∧ Vis X.env.scope x ∧ (x == ("__debug__" : Str)) = false ∧ (x == ("__classdict__" : Str)) = false := by
  unfold visB at h
  rw [Bool.and_eq_true, Bool.and_eq_true] at h
  obtain ⟨⟨h1, h2⟩, h3⟩ := h
  refine ⟨by rw [g.N]; exact of_decide_eq_true h1, ?_, okN_c h3⟩
  unfold Vis
  rw [g.sc]
  unfold visK at h2
  split at h2
  · exact .inl (by assumption)
  · exact .inr (.inl (by assumption))
  · exact .inr (.inr (by assumption))
  · cases h2
def locB (ck : Ck) (i : Nat) (x : Str) : Bool := decide (ck.N[i]? = some x) && (match ck.sc.names.lookup x with
  | some .local => true
  | some .cell => (match ck.top with | none => true | some sc => sc.names.lookup x == some .cell)
  | _ => false)
theorem Good.loc {X : Cx} {φ : Fn} {ck : Ck} {i : Nat} {x : Str} (g : Good X φ ck) (h : locB ck i x = true) : X.N[i]? = some x ∧ L2.Loc X.env.scope x ∧ (X.fn x = true ∨ X.env.scope.names.lookup x = some .local) := by
  unfold locB at h
  rw [Bool.and_eq_true] at h
  refine ⟨by rw [g.N]; exact of_decide_eq_true h.1, ?_⟩
  unfold L2.Loc
  rw [g.sc]
  have h2 := h.2
  split at h2
  · rename_i e; exact ⟨.inl e, .inr e⟩
  · rename_i e; exact ⟨.inr e, .inl (g.fn x h2)⟩
  · cases h2
/-! ### primitives -/
def call1 (ck : Ck) (nm : Str) : Expr → Option (List Expr)
  | .Call (.Name x _) [a] [] _ => if x = nm ∧ glB ck x = true ∧ noStar a = true then some [a] else none
  | _ => none
def call2 (ck : Ck) (nm : Str) : Expr → Option (List Expr)
  | .Call (.Name x _) [a, b] [] _ => if x = nm ∧ glB ck x = true ∧ noStar a = true ∧ noStar b = true then some [a, b] else none
  | _ => none
def callN (ck : Ck) (nm nm2 : Str) : Expr → Option (List Expr)
  | .Call (.Name x _) [.Call (.Name y _) [a] [] _] [] _ => if x = nm ∧ y = nm2 ∧ glB ck x = true ∧ glB ck y = true ∧ noStar a = true then some [a] else none
  | _ => none
def callN2 (ck : Ck) (nm nm2 : Str) : Expr → Option (List Expr)
  | .Call (.Name x _) [.Call (.Name y _) [a, b] [] _] [] _ => if x = nm ∧ y = nm2 ∧ glB ck x = true ∧ glB ck y = true ∧ noStar a = true ∧ noStar b = true then some [a, b] else none
  | _ => none
theorem call1_c {ck : Ck} {nm : Str} {e : Expr} {es : List Expr} (h : call1 ck nm e = some es) : ∃ a p q, e = .Call (.Name nm p) [a] [] q ∧ es = [a] ∧ glB ck nm = true ∧ noStar a = true := by
  unfold call1 at h
  split at h
  · split at h
    · rename_i c
      obtain ⟨rfl, c2, c3⟩ := c
      cases h
      exact ⟨_, _, _, rfl, rfl, c2, c3⟩
    · cases h
  · cases h
theorem call2_c {ck : Ck} {nm : Str} {e : Expr} {es : List Expr} (h : call2 ck nm e = some es) : ∃ a b p q, e = .Call (.Name nm p) [a, b] [] q ∧ es = [a, b] ∧ glB ck nm = true ∧ noStar a = true ∧ noStar b = true := by
  unfold call2 at h
  split at h
  · split at h
    · rename_i c
      obtain ⟨rfl, c2, c3, c4⟩ := c
      cases h
      exact ⟨_, _, _, _, rfl, rfl, c2, c3, c4⟩
    · cases h
  · cases h
theorem callN_c {ck : Ck} {nm nm2 : Str} {e : Expr} {es : List Expr} (h : callN ck nm nm2 e = some es) : ∃ a p q p2 q2, e = .Call (.Name nm p) [.Call (.Name nm2 p2) [a] [] q2] [] q ∧ es = [a] ∧ glB ck nm = true ∧ glB ck nm2 = true ∧ noStar a = true := by
  unfold callN at h
  split at h
  · split at h
    · rename_i c
      obtain ⟨rfl, rfl, c2, c3, c4⟩ := c
      cases h
      exact ⟨_, _, _, _, _, rfl, rfl, c2, c3, c4⟩
    · cases h
  · cases h
theorem callN2_c {ck : Ck} {nm nm2 : Str} {e : Expr} {es : List Expr} (h : callN2 ck nm nm2 e = some es) : ∃ a b p q p2 q2, e = .Call (.Name nm p) [.Call (.Name nm2 p2) [a, b] [] q2] [] q ∧ es = [a, b] ∧ glB ck nm = true ∧ glB ck nm2 = true ∧ noStar a = true ∧ noStar b = true := by
  unfold callN2 at h
  split at h
  · split at h
    · rename_i c
      obtain ⟨rfl, rfl, c2, c3, c4, c5⟩ := c
      cases h
      exact ⟨_, _, _, _, _, _, rfl, rfl, c2, c3, c4, c5⟩
    · cases h
  · cases h
def kdsPos : List Kd → List Expr → Option (List Pos)
  | [], [] => some []
  | k :: ks, .Name x p :: es => if x = kdN k then (kdsPos ks es).map (p :: ·) else none
  | _, _ => none
theorem kdsPos_c : ∀ {ks : List Kd} {es : List Expr} {ps : List Pos}, kdsPos ks es = some ps → es = ((ks.zip ps).map fun q => Expr.Name (kdN q.1) q.2) ∧ ps.length = ks.length
  | [], [], ps, h => by simp [kdsPos] at h; subst h; exact ⟨rfl, rfl⟩
  | k :: ks, e :: es, ps, h => by
    unfold kdsPos at h
    split at h
    · contradiction
    · rename_i k' ks' x p es' e1 e2
      cases e1; cases e2
      split at h
      · rename_i hx
        subst hx
        rw [Option.map_eq_some_iff] at h
        obtain ⟨ps', h1, rfl⟩ := h
        obtain ⟨h2, h3⟩ := kdsPos_c h1
        exact ⟨by rw [h2]; simp [h3], by simp [h3]⟩
      · cases h
    · cases h
  | [], _ :: _, _, h => by simp [kdsPos] at h
  | _ :: _, [], _, h => by simp [kdsPos] at h
def isiArgs (ck : Ck) (ks : List Kd) : Expr → Option (List Expr)
  | .Call (.Name f _) [a, .Name x _] [] _ => match ks with
    | [k] => if f = ("isinstance" : Str) ∧ x = kdN k ∧ glB ck ("isinstance" : Str) = true ∧ glB ck (kdN k) = true ∧ noStar a = true then some [a] else none
    | _ => none
  | .Call (.Name f _) [a, .Tuple es _ _] [] _ => if f = ("isinstance" : Str) ∧ (kdsPos ks es).isSome = true ∧ ks.length ≤ 30 ∧ glB ck ("isinstance" : Str) = true ∧ (ks.all fun k => glB ck (kdN k)) = true ∧ noStar a = true then some [a] else none
  | _ => none
def noMarkE : Expr → Bool
  | .Set _ _ _ => false
  | _ => true
theorem noMark_c {b : Expr} {op : CmpOp} (h : noMarkE b = true) : behindInMarks op b = false := by
  cases b <;> first | rfl | (simp [noMarkE] at h)
def primArgs (ck : Ck) (p : Pr) (e : Expr) : Option (List Expr) := match p with
  | .add => match e with | .BinOp a .Add b _ => some [a, b] | _ => none
  | .sub => match e with | .BinOp a .Sub b _ => some [a, b] | _ => none
  | .mul => match e with | .BinOp a .Mult b _ => some [a, b] | _ => none
  | .mod => match e with | .BinOp a .Mod b _ => some [a, b] | _ => none
  | .fdiv => match e with | .BinOp a .FloorDiv b _ => some [a, b] | _ => none
  | .pow => match e with | .BinOp a .Pow b _ => some [a, b] | _ => none
  | .neg => match e with | .UnaryOp .USub a _ => some [a] | _ => none
  | .eq => match e with | .Compare a [.Eq] [b] _ => some [a, b] | _ => none
  | .ne => match e with | .Compare a [.NotEq] [b] _ => some [a, b] | _ => none
  | .lt => match e with | .Compare a [.Lt] [b] _ => some [a, b] | _ => none
  | .le => match e with | .Compare a [.LtE] [b] _ => some [a, b] | _ => none
  | .gt => match e with | .Compare a [.Gt] [b] _ => some [a, b] | _ => none
  | .ge => match e with | .Compare a [.GtE] [b] _ => some [a, b] | _ => none
  | .isin => match e with | .Compare a [.In] [b] _ => if noMarkE b then some [a, b] else none | _ => none
  | .notin => match e with | .Compare a [.NotIn] [b] _ => if noMarkE b then some [a, b] else none | _ => none
  | .isnone => match e with | .Compare a [.Is] [.Constant .none _ _] _ => some [a] | _ => none
  | .notnone => match e with | .Compare a [.IsNot] [.Constant .none _ _] _ => some [a] | _ => none
  | .idx => match e with | .Subscript a b _ => if noSlice b then some [a, b] else none | _ => none
  | .sl false false => match e with | .Subscript a (.Slice none none none _) _ => some [a] | _ => none
  | .sl true false => match e with | .Subscript a (.Slice (some b) none none _) _ => some [a, b] | _ => none
  | .sl false true => match e with | .Subscript a (.Slice none (some b) none _) _ => some [a, b] | _ => none
  | .sl true true => none
  | .len => call1 ck "len" e
  | .tuple => call1 ck "tuple" e
  | .list => call1 ck "list" e
  | .sorted => call1 ck "sorted" e
  | .sortedset => callN ck "sorted" "set" e
  | .abs => call1 ck "abs" e
  | .int => call1 ck "int" e
  | .min2 => call2 ck "min" e
  | .max2 => call2 ck "max" e
  | .all => call1 ck "all" e
  | .any => call1 ck "any" e
  | .sum => call1 ck "sum" e
  | .isi ks => isiArgs ck ks e
  | .lrange1 => callN ck "list" "range" e
  | .lrange2 => callN2 ck "list" "range" e
  | .trange1 => callN ck "tuple" "range" e
  | .dict => call1 ck "dict" e
theorem Good.b1 {X : Cx} {φ : Fn} {ck : Ck} (g : Good X φ ck) {p : Pr} {nm : Str} {id : String} {e : Expr} {es : List Expr} {r : List V → Hp → VK → Prop} (h : call1 ck nm e = some es) (hb : nm ∈ bnL) (hc : CallR X (.builtin id) r) (hv : bootBuiltins nm = some (.builtin id)) (hn : nm ≠ "__name__") (hd : (nm == ("__debug__" : Str)) = false) (hr : PrimR X.K p r) : PrimOk X p e es := by
  obtain ⟨a, p', q, rfl, rfl, c1, c2⟩ := call1_c h
  exact prim_callB hc (g.gl c1) (g.bi _ hb) hv hn hd (noStarL c2) hr
theorem Good.t1 {X : Cx} {φ : Fn} {ck : Ck} (g : Good X φ ck) {p : Pr} {nm : Str} {id : String} {e : Expr} {es : List Expr} {r : List V → Hp → VK → Prop} (h : call1 ck nm e = some es) (hb : nm ∈ bnL) (hc : CallR X (.type id) r) (hv : bootBuiltins nm = some (.type id)) (hn : nm ≠ "__name__") (hd : (nm == ("__debug__" : Str)) = false) (hr : PrimR X.K p r) : PrimOk X p e es := by
  obtain ⟨a, p', q, rfl, rfl, c1, c2⟩ := call1_c h
  exact prim_callT hc (g.gl c1) (g.bi _ hb) hv hn hd (noStarL c2) hr
theorem Good.b2 {X : Cx} {φ : Fn} {ck : Ck} (g : Good X φ ck) {p : Pr} {nm : Str} {id : String} {e : Expr} {es : List Expr} {r : List V → Hp → VK → Prop} (h : call2 ck nm e = some es) (hb : nm ∈ bnL) (hc : CallR X (.builtin id) r) (hv : bootBuiltins nm = some (.builtin id)) (hn : nm ≠ "__name__") (hd : (nm == ("__debug__" : Str)) = false) (hr : PrimR X.K p r) : PrimOk X p e es := by
  obtain ⟨a, b, p', q, rfl, rfl, c1, c2, c3⟩ := call2_c h
  exact prim_callB hc (g.gl c1) (g.bi _ hb) hv hn hd (by simp [c2, c3]) hr
theorem isi_ok {X : Cx} {φ : Fn} {ck : Ck} (g : Good X φ ck) {ks : List Kd} {e : Expr} {es : List Expr} (h : isiArgs ck ks e = some es) : PrimOk X (.isi ks) e es := by
  have kb : ∀ k : Kd, kdN k ∈ bnL := fun k => by cases k <;> decide +kernel
  have ib : ("isinstance" : Str) ∈ bnL := by decide +kernel
  unfold isiArgs at h
  split at h
  · split at h
    · split at h
      · rename_i c
        obtain ⟨rfl, rfl, c1, c2, c3⟩ := c
        cases h
        exact p_isi1 (g.gl c1) (g.bi _ ib) (g.gl c2) (g.bi _ (kb _)) c3
      · cases h
    · cases h
  · split at h
    · rename_i c
      obtain ⟨rfl, c1, c2, c3, c4, c5⟩ := c
      cases h
      obtain ⟨ps, hp⟩ := Option.isSome_iff_exists.mp c1
      obtain ⟨rfl, hl⟩ := kdsPos_c hp
      exact p_isi hl c2 (g.gl c3) (g.bi _ ib) (fun k hk => ⟨g.gl (List.all_eq_true.mp c4 k hk), g.bi _ (kb k)⟩) c5
    · cases h
  · cases h
theorem primArgs_ok {X : Cx} {φ : Fn} {ck : Ck} (g : Good X φ ck) {p : Pr} {e : Expr} {es : List Expr} (h : primArgs ck p e = some es) : PrimOk X p e es := by
  have un := g.un
  have un' : X.A.units + 64 < cLine := by omega
  unfold primArgs at h
  split at h
  case h_1 => split at h <;> first | cases h | skip
              exact p_add
  case h_2 => split at h <;> first | cases h | skip
              exact p_sub
  case h_3 => split at h <;> first | cases h | skip
              exact p_mul
  case h_4 => split at h <;> first | cases h | skip
              exact p_mod
  case h_5 => split at h <;> first | cases h | skip
              exact p_fdiv
  case h_6 => split at h <;> first | cases h | skip
              exact p_pow
  case h_7 => split at h <;> first | cases h | skip
              exact p_neg
  case h_8 => split at h <;> first | cases h | skip
              exact p_eq un'
  case h_9 => split at h <;> first | cases h | skip
              exact p_ne un'
  case h_10 => split at h <;> first | cases h | skip
               exact p_lt
  case h_11 => split at h <;> first | cases h | skip
               exact p_le
  case h_12 => split at h <;> first | cases h | skip
               exact p_gt
  case h_13 => split at h <;> first | cases h | skip
               exact p_ge
  case h_14 =>
    split at h
    · split at h
      · rename_i c; cases h; exact p_in un (noMark_c c)
      · cases h
    · cases h
  case h_15 =>
    split at h
    · split at h
      · rename_i c; cases h; exact p_notin un (noMark_c c)
      · cases h
    · cases h
  case h_16 => split at h <;> first | cases h | skip
               exact p_isn
  case h_17 => split at h <;> first | cases h | skip
               exact p_notn
  case h_18 =>
    split at h
    · split at h
      · rename_i c; cases h; exact p_idx un c
      · cases h
    · cases h
  case h_19 => split at h <;> first | cases h | skip
               exact p_sl00
  case h_20 => split at h <;> first | cases h | skip
               exact p_sl10
  case h_21 => split at h <;> first | cases h | skip
               exact p_sl01
  case h_22 => cases h
  case h_23 => exact g.b1 h (by decide +kernel) call_len_seq boot_len (by decide +kernel) (by decide +kernel) r_len
  case h_24 => exact g.t1 h (by decide +kernel) call_tuple_of PyProof.Rows.boot_tuple (by decide +kernel) (by decide +kernel) r_tuple
  case h_25 => exact g.t1 h (by decide +kernel) call_list_of PyProof.Rows.boot_list (by decide +kernel) (by decide +kernel) r_list
  case h_26 => exact g.b1 h (by decide +kernel) cr_sortedI PyProof.Rows.boot_sorted (by decide +kernel) (by decide +kernel) r_sorted
  case h_27 =>
    obtain ⟨a, p', q, p2, q2, rfl, rfl, c1, c2, c3⟩ := callN_c h
    exact p_ss g.calm (g.gl c1) (g.bi _ (by decide +kernel)) (g.gl c2) (g.bi _ (by decide +kernel)) c3
  case h_28 => exact g.b1 h (by decide +kernel) call_abs PyProof.Rows.boot_abs (by decide +kernel) (by decide +kernel) r_abs
  case h_29 => exact g.t1 h (by decide +kernel) call_int1 PyProof.Rows.boot_int (by decide +kernel) (by decide +kernel) r_int
  case h_30 => exact g.b2 h (by decide +kernel) (call_min2 g.calm) PyProof.Rows.boot_min (by decide +kernel) (by decide +kernel) r_min2
  case h_31 => exact g.b2 h (by decide +kernel) (call_max2 g.calm) PyProof.Rows.boot_max (by decide +kernel) (by decide +kernel) r_max2
  case h_32 => exact g.b1 h (by decide +kernel) (cr_all g.calm) PyProof.Rows.boot_all (by decide +kernel) (by decide +kernel) r_all
  case h_33 => exact g.b1 h (by decide +kernel) (cr_any g.calm) PyProof.Rows.boot_any (by decide +kernel) (by decide +kernel) r_any
  case h_34 => exact g.b1 h (by decide +kernel) (cr_sum g.calm) PyProof.Rows.boot_sum (by decide +kernel) (by decide +kernel) r_sum
  case h_35 => exact isi_ok g h
  case h_36 =>
    obtain ⟨a, p', q, p2, q2, rfl, rfl, c1, c2, c3⟩ := callN_c h
    exact p_lr1 g.calm (g.gl c1) (g.bi _ (by decide +kernel)) (g.gl c2) (g.bi _ (by decide +kernel)) c3
  case h_37 =>
    obtain ⟨a, b, p', q, p2, q2, rfl, rfl, c1, c2, c3, c4⟩ := callN2_c h
    exact p_lr2 g.calm (g.gl c1) (g.bi _ (by decide +kernel)) (g.gl c2) (g.bi _ (by decide +kernel)) c3 c4
  case h_38 =>
    obtain ⟨a, p', q, p2, q2, rfl, rfl, c1, c2, c3⟩ := callN_c h
    exact p_tr1 g.calm (g.gl c1) (g.bi _ (by decide +kernel)) (g.gl c2) (g.bi _ (by decide +kernel)) c3
  case h_39 => exact g.t1 h (by decide +kernel) (call_dictPT g.calm un') (by decide +kernel) (by decide +kernel) (by decide +kernel) r_dict
end LI

set_option Elab.async false
set_option linter.all false
set_option autoImplicit false
set_option maxRecDepth 100000
set_option maxHeartbeats 4000000
namespace LI
open PySem PySem.Spec PyProof.Rows L2
/-! ### tests by comparison -/
def isCmp : Pr → Bool
  | .eq | .ne | .lt | .le | .gt | .ge | .isin | .notin | .isnone | .notnone => true
  | _ => false
theorem bool_int2 {f : Int → Int → Bool} {ds : List PyData} {sv : SV} (h : pInt2 (fun i j => dbl (f i j)) ds = some sv) : ∃ b, sv = .dat (.bool b) := by
  unfold pInt2 at h
  split at h
  · cases h; exact ⟨_, rfl⟩
  · cases h
theorem bool_p2 {f : PyData → PyData → Bool} {g : PyData → PyData → Bool} {ds : List PyData} {sv : SV} (h : p2 (fun a b => if f a b then dbl (g a b) else none) ds = some sv) : ∃ b, sv = .dat (.bool b) := by
  unfold p2 at h
  split at h
  · dsimp only at h
    split at h
    · cases h; exact ⟨_, rfl⟩
    · cases h
  · cases h
theorem bool_in {n : Bool} {ds : List PyData} {sv : SV} (h : pIn n ds = some sv) : ∃ b, sv = .dat (.bool b) := by
  unfold pIn at h
  split at h <;> first | (cases h; done) | (split at h <;> first | (cases h; exact ⟨_, rfl⟩) | cases h)
theorem bool_p1 {f : PyData → Bool} {ds : List PyData} {sv : SV} (h : p1 (fun d => dbl (f d)) ds = some sv) : ∃ b, sv = .dat (.bool b) := by
  unfold p1 at h
  split at h
  · cases h; exact ⟨_, rfl⟩
  · cases h
theorem isBool_cmp {p : Pr} (h : isCmp p = true) : isBoolP p := by
  cases p <;> first | (simp [isCmp] at h; done) | skip
  · exact fun ds sv e => bool_p2 e
  · exact fun ds sv e => bool_p2 e
  · exact fun ds sv e => bool_int2 e
  · exact fun ds sv e => bool_int2 e
  · exact fun ds sv e => bool_int2 e
  · exact fun ds sv e => bool_int2 e
  · exact fun ds sv e => bool_in e
  · exact fun ds sv e => bool_in e
  · exact fun ds sv e => bool_p1 e
  · exact fun ds sv e => bool_p1 e
section
variable {X : Cx} {φ : Fn}
theorem r_lt : PrimR X.K .lt (R2l (rI0 fun i j => .bl (decide (i < j)))) := prim_int20 (fun _ => rfl) fun i j sv e => by cases e; exact ⟨_, rfl, fun _ => .bl _⟩
theorem r_le : PrimR X.K .le (R2l (rI0 fun i j => .bl (decide (i ≤ j)))) := prim_int20 (fun _ => rfl) fun i j sv e => by cases e; exact ⟨_, rfl, fun _ => .bl _⟩
theorem r_gt : PrimR X.K .gt (R2l (rI0 fun i j => .bl (decide (j < i)))) := prim_int20 (fun _ => rfl) fun i j sv e => by cases e; exact ⟨_, rfl, fun _ => .bl _⟩
theorem r_ge : PrimR X.K .ge (R2l (rI0 fun i j => .bl (decide (j ≤ i)))) := prim_int20 (fun _ => rfl) fun i j sv e => by cases e; exact ⟨_, rfl, fun _ => .bl _⟩
theorem primArgsT_ok {ck : Ck} (g : Good X φ ck) {p : Pr} {e : Expr} {es : List Expr} (hc : isCmp p = true) (h : primArgs ck p e = some es) : PrimOkT X p e es := by
  have un := g.un
  have un' : X.A.units + 64 < cLine := by omega
  cases p <;> first | (simp [isCmp] at hc; done) | skip
  all_goals unfold primArgs at h
  case eq =>
    dsimp only at h
    split at h <;> first | cases h | skip
    exact primT_cmp (op_eqD un') (prim2 (fun _ => rfl) fun H Hf x y d e sv Q s h1 h2 h q => by
      split at h
      · rename_i c
        rw [Bool.and_eq_true] at c
        cases h
        exact ⟨d, e, (h1.rp s).dp (SeqAt.canLay_of_shaped c.1), (h2.rp s).dp (SeqAt.canLay_of_shaped c.2), c.1, c.2, q _ H (pp_same s (.bl _))⟩
      · cases h) (nomark _)
  case ne =>
    dsimp only at h
    split at h <;> first | cases h | skip
    exact primT_cmp (op_neD un') (prim2 (fun _ => rfl) fun H Hf x y d e sv Q s h1 h2 h q => by
      split at h
      · rename_i c
        rw [Bool.and_eq_true] at c
        cases h
        exact ⟨d, e, (h1.rp s).dp (SeqAt.canLay_of_shaped c.1), (h2.rp s).dp (SeqAt.canLay_of_shaped c.2), c.1, c.2, q _ H (pp_same s (.bl _))⟩
      · cases h) (nomark _)
  case lt =>
    dsimp only at h
    split at h <;> first | cases h | skip
    exact primT_cmp op_lt r_lt (nomark _)
  case le =>
    dsimp only at h
    split at h <;> first | cases h | skip
    exact primT_cmp op_le r_le (nomark _)
  case gt =>
    dsimp only at h
    split at h <;> first | cases h | skip
    exact primT_cmp op_gt r_gt (nomark _)
  case ge =>
    dsimp only at h
    split at h <;> first | cases h | skip
    exact primT_cmp op_ge r_ge (nomark _)
  case isin =>
    dsimp only at h
    split at h
    · split at h
      · rename_i c; cases h; exact primT_cmp (op_inA un) (prim_in false fun _ => rfl) (noMark_c c)
      · cases h
    · cases h
  case notin =>
    dsimp only at h
    split at h
    · split at h
      · rename_i c; cases h; exact primT_cmp (op_notInA un) (prim_in true fun _ => rfl) (noMark_c c)
      · cases h
    · cases h
  case isnone =>
    dsimp only at h
    split at h <;> first | cases h | skip
    intro ts h
    cases h with | cons ha h => cases h; exact ⟨R1l (fun x H Q => Q (.bl (decide (x = .non))) H), pt_cmp (pc_isN ha), prim1 (fun _ => rfl) fun H Hf x d sv Q s h1 e q => by
      cases e
      show Q (.bl (decide (x = .non))) H
      rw [none_rp h1]
      exact q _ H (pp_same s (.bl _))⟩
  case notnone =>
    dsimp only at h
    split at h <;> first | cases h | skip
    intro ts h
    cases h with | cons ha h => cases h; exact ⟨R1l (fun x H Q => Q (.bl (!decide (x = .non))) H), pt_cmp (pc_notN ha), prim1 (fun _ => rfl) fun H Hf x d sv Q s h1 e q => by
      cases e
      show Q (.bl (!decide (x = .non))) H
      rw [none_rp h1]
      exact q _ H (pp_same s (.bl _))⟩
/-! ### chains of orders -/
def ordOp : Pr → CmpOp → Bool
  | .lt, .Lt | .le, .LtE | .gt, .Gt | .ge, .GtE => true
  | _, _ => false
theorem ord_ok {p : Pr} {op : CmpOp} (h : ordOp p op = true) : ∃ r, OpR X (compareOp op) r ∧ PrimR X.K p (R2l r) ∧ isBoolP p ∧ op ≠ .In ∧ op ≠ .NotIn := by
  unfold ordOp at h
  split at h
  · exact ⟨_, op_lt, r_lt, isBool_cmp rfl, by decide, by decide⟩
  · exact ⟨_, op_le, r_le, isBool_cmp rfl, by decide, by decide⟩
  · exact ⟨_, op_gt, r_gt, isBool_cmp rfl, by decide, by decide⟩
  · exact ⟨_, op_ge, r_ge, isBool_cmp rfl, by decide, by decide⟩
  · cases h
theorem last_no {op op' : CmpOp} {b c : Expr} (h : op' ≠ .In) (h2 : op' ≠ .NotIn) : lastMarks [op, op'] [b, c] = false := nomark c h h2
end
/-! ### tasks -/
inductive Tk where
  | e (e : Expr) (c : E)
  | t (e : Expr) (c : E)
  | b (op : BoolOp) (es : List Expr) (c : E)
  | w (op : BoolOp) (es : List Expr) (c : E)
  | l (es : List Expr) (cs : List E)
  | o (es : List Expr) (cs : List E)
  | a (es : List Expr) (cs : List E) (mu : List Bool)
  | v (es : List Expr) (cs : List E)
  | i (tg it : Expr) (c : It)
  | g (tg : Expr) (t : T) (is : List Nat)
  | gs (tgs : List Expr) (ts : List T) (is : List Nat)
  | c (ifs : List Expr) (c : Option E)
  | s (st : Stmt) (c : S)
  | ss (sts : List Stmt) (cs : List S)
def Snd (X : Cx) (φ : Fn) : Tk → Prop
  | .e e c => SndE X e (evE φ c)
  | .t e c => SndT X e (evT φ c)
  | .b op es c => ∀ pos, SndE X (.BoolOp op es pos) (evE φ c)
  | .w op es c => ∀ pos, SndW X (.BoolOp op es pos) (evT φ c)
  | .l es cs => SndL X es (evL φ cs)
  | .o es cs => SndO X es (evO φ cs)
  | .a es cs mu => SndA X es (evA φ cs mu)
  | .v es cs => SndV X es (evV φ cs)
  | .i tg it c => SndI X tg it (evI φ c)
  | .g tg t is => SndG X tg (setT t) is
  | .gs tgs ts is => SndGs X tgs (setTs ts) is
  | .c ifs c => SndC X ifs c φ
  | .s st c => SndS X st (evS φ c)
  | .ss sts cs => SndSs X sts (evSs φ cs)
mutual
def tIx : T → List Nat
  | .name i => [i]
  | .tup ts => tIxs ts
def tIxs : List T → List Nat
  | [] => []
  | t :: ts => tIx t ++ tIxs ts
end
def blkV (N : List Str) (scope : Scope) : List (Str × Nat) := scope.names.filterMap fun y => match y.2 with
  | .local | .cell => (N.findIdx? fun x => decide (x = y.1)).map fun i => (y.1, i)
  | _ => none
def noCallE : Expr → Bool
  | .Call _ _ _ _ => false
  | _ => true
theorem noCall_c {o : Expr} (h : noCallE o = true) (nm : Str) (env : Env) : attributeBase o nm env (eval o env) = eval o env := by
  cases o <;> first | rfl | (simp [noCallE] at h)
def noSetE : Expr → Bool
  | .Set _ _ _ => false
  | _ => true
theorem noSet_c {e : Expr} (h : noSetE e = true) (env : Env) (x : Value) : foldedSetIterable e env x = pure x := by
  cases e <;> first | rfl | (simp [noSetE] at h)
section
variable (rec : Ck → Tk → Bool)
def lcB (ck : Ck) (elt tg iter : Expr) (ifs : List Expr) (scope : Scope) (el : E) (t : T) (it : It) (c : Option E) (vs : List Nat) : Bool :=
  decide (vs = (blkV ck.N scope).map (·.2)) && blkC ck.N ck.sc scope (blkV ck.N scope) && noSetE iter && rec ck (.i tg iter it) && ((tIx t).all fun i => decide (i ∈ vs)) && rec (ck.blk scope) (.g tg t (tIx t)) && rec (ck.blk scope) (.c ifs c) && rec (ck.blk scope) (.e elt el)
def lc2B (ck : Ck) (elt tg iter : Expr) (ifs : List Expr) (tg2 iter2 : Expr) (ifs2 : List Expr) (scope : Scope) (el : E) (t : T) (it : It) (c : Option E) (t2 : T) (it2 : It) (c2 : Option E) (vs vs2 : List Nat) : Bool :=
  decide (vs = (blkV ck.N scope).map (·.2)) && blkC ck.N ck.sc scope (blkV ck.N scope) && noSetE iter && rec ck (.i tg iter it) && ((tIx t).all fun i => decide (i ∈ vs)) && rec (ck.blk scope) (.g tg t (tIx t)) && rec (ck.blk scope) (.c ifs c) && rec (ck.blk scope) (.e elt el) &&
  (vs2.all fun i => decide (i ∈ vs)) && noSetE iter2 && rec (ck.blk scope) (.i tg2 iter2 it2) && ((tIx t2).all fun i => decide (i ∈ vs2)) && rec (ck.blk scope) (.g tg2 t2 (tIx t2)) && rec (ck.blk scope) (.c ifs2 c2)
def cstB (ck : Ck) (e : Expr) (d : PyData) : Bool := match e with
  | .Constant (.int i) _ _ => (match d with | .int j => decide (i = j) | _ => false)
  | .Constant (.bool i) _ _ => (match d with | .bool j => decide (i = j) | _ => false)
  | .Constant (.str i) _ _ => (match d with | .str j => decide (i = j) | _ => false)
  | .Constant .none _ _ => (match d with | .none => true | _ => false)
  | .Name x _ => (match d with | .int j => glB ck x && okN x && decide ((x, j) ∈ ck.gi) | _ => false)
  | _ => false
def chkE (ck : Ck) (e : Expr) (c : E) : Bool := match c with
  | .var i => (match e with | .Name x _ => visB ck i x | _ => false)
  | .cst d => cstB ck e d
  | .tup cs => (match e with | .Tuple es _ _ => rec ck (.l es cs) | _ => false)
  | .lst cs => (match e with | .List es _ => rec ck (.l es cs) | _ => false)
  | .star _ => false
  | .call f ks mu cs => match e with
    | .Call (.Name x _) [] [] _ => decide (x = f) && decide (x ∈ ck.fs) && ks.isEmpty && cs.isEmpty && glB ck x && okN x
    | .Call (.Name x _) (a :: es) [] _ => decide (x = f) && decide (x ∈ ck.fs) && ks.isEmpty && glB ck x && okN x && (a :: es).all noStar && rec ck (.a (a :: es) cs mu)
    | .Call (.Name x _) [] (kw :: kws) _ => decide (x = f) && decide ((x, (kw :: kws).filterMap (·.arg), ks) ∈ ck.kb) && mu.isEmpty && !ks.isEmpty && glB ck x && okN x && (kw :: kws).all (·.arg.isSome) && decide (cs.length = (kw :: kws).length) && rec ck (.a ((kw :: kws).map (·.value)) cs [])
    | _ => false
  | .prim p cs => match primArgs ck p e with | some es => rec ck (.o es cs) | none => false
  | .andE a b => (match e with | .BoolOp .And (x :: y :: r) _ => rec ck (.e x a) && rec ck (.b .And (y :: r) b) | _ => false)
  | .orE a b => (match e with | .BoolOp .Or (x :: y :: r) _ => rec ck (.e x a) && rec ck (.b .Or (y :: r) b) | _ => false)
  | .notE a => (match e with | .UnaryOp .Not x _ => rec ck (.e x a) | _ => false)
  | .ite c a b => (match e with | .IfExp x y z _ => rec ck (.t x c) && rec ck (.e y a) && rec ck (.e z b) | _ => false)
  | .chain p q a b c => (match e with | .Compare x [op, op'] [y, z] _ => ordOp p op && ordOp q op' && rec ck (.e x a) && rec ck (.e y b) && rec ck (.e z c) | _ => false)
  | .lc el t it c vs => (match e with | .ListComp elt [⟨tg, iter, ifs, 0⟩] scope _ => lcB rec ck elt tg iter ifs scope el t it c vs | _ => false)
  | .lc2 el t it c t2 it2 c2 vs vs2 => (match e with | .ListComp elt [⟨tg, iter, ifs, 0⟩, ⟨tg2, iter2, ifs2, 0⟩] scope _ => lc2B rec ck elt tg iter ifs tg2 iter2 ifs2 scope el t it c t2 it2 c2 vs vs2 | _ => false)
  | .popAt i ce => (match e with | .Call (.Attribute (.Name x _) nm apos) [a] [] cpos => decide (nm = ("pop" : Str)) && visB ck i x && (apos.endLine == cpos.line) && noStar a && rec ck (.e a ce) | _ => false)
  | .sl2 a lo hi => match a with
    | [ca] => (match e with | .Subscript x (.Slice (some y) (some z) none _) _ => rec ck (.o [x] [ca]) && rec ck (.e y lo) && rec ck (.e z hi) | _ => false)
    | _ => false
  | .index o ce => match o with
    | [co] => (match e with
      | .Call (.Attribute x nm apos) [a] [] cpos => decide (nm = ("index" : Str)) && noCallE x && (apos.endLine == cpos.line) && noStar a && rec ck (.o [x] [co]) && rec ck (.e a ce)
      | _ => false)
    | _ => false
def chkT (ck : Ck) (e : Expr) (c : E) : Bool := match e with
  | .UnaryOp .Not x _ => (match c with | .notE a => rec ck (.t x a) | _ => false)
  | .BoolOp op es _ => rec ck (.w op es c)
  | .Compare x ops ys _ => match c with
    | .prim p cs => isCmp p && (match primArgs ck p e with | some es => rec ck (.o es cs) | none => false)
    | .chain p q a b c => match ops, ys with | [op, op'], [y, z] => ordOp p op && ordOp q op' && rec ck (.e x a) && rec ck (.e y b) && rec ck (.e z c) | _, _ => false
    | _ => false
  | .IfExp _ _ _ _ => false
  | e => rec ck (.e e c)
def chkB (ck : Ck) (op : BoolOp) (es : List Expr) (c : E) : Bool := match es with
  | [] => false
  | [x] => rec ck (.e x c)
  | x :: y :: r => match op with
    | .And => match c with | .andE a b => rec ck (.e x a) && rec ck (.b .And (y :: r) b) | _ => false
    | .Or => match c with | .orE a b => rec ck (.e x a) && rec ck (.b .Or (y :: r) b) | _ => false
def chkW (ck : Ck) (op : BoolOp) (es : List Expr) (c : E) : Bool := match es with
  | [] => false
  | [x] => rec ck (.t x c)
  | x :: y :: r => match op with
    | .And => match c with | .andE a b => rec ck (.t x a) && rec ck (.w .And (y :: r) b) | _ => false
    | .Or => match c with | .orE a b => rec ck (.t x a) && rec ck (.w .Or (y :: r) b) | _ => false
def chkL (ck : Ck) (es : List Expr) (cs : List E) : Bool := match es, cs with
  | [], [] => true
  | .Starred e _ :: es, .star c :: cs => rec ck (.e e c) && rec ck (.l es cs)
  | e :: es, c :: cs => !isStarE c && noStar e && rec ck (.e e c) && rec ck (.l es cs)
  | _, _ => false
def chkO (ck : Ck) (es : List Expr) (cs : List E) : Bool := match es, cs with
  | [], [] => true
  | e :: es, c :: cs => (match c with
    | .var i => (match e with | .Name x _ => visB ck i x | _ => false)
    | c => rec ck (.e e c)) && rec ck (.o es cs)
  | _, _ => false
def chkA (ck : Ck) (es : List Expr) (cs : List E) (mu : List Bool) : Bool := match es, cs with
  | [], [] => true
  | e :: es, c :: cs => (match bArg (mu.headD false) c with
    | some i => (match e with | .Name x _ => mu.headD false && visB ck i x | _ => false) && (match c with | .var j => decide (j = i) | _ => false)
    | none => rec ck (.e e c)) && rec ck (.a es cs mu.tail)
  | _, _ => false
def chkV (ck : Ck) (es : List Expr) (cs : List E) : Bool := match es, cs with
  | [], [] => true
  | e :: es, c :: cs => rec ck (.e e c) && rec ck (.v es cs)
  | _, _ => false
def chkI (ck : Ck) (tg it : Expr) (c : It) : Bool := match c with
  | .seq c => rec ck (.e it c)
  | .rng1 c => (match it with | .Call (.Name x _) [a] [] _ => decide (x = ("range" : Str)) && glB ck x && noStar a && rec ck (.e a c) | _ => false)
  | .rng2 c d => (match it with | .Call (.Name x _) [a, b] [] _ => decide (x = ("range" : Str)) && glB ck x && noStar a && noStar b && rec ck (.e a c) && rec ck (.e b d) | _ => false)
  | .enum c => match tg with
    | .Tuple _ _ _ => (match it with | .Call (.Name x _) [a] [] _ => decide (x = ("enumerate" : Str)) && glB ck x && noStar a && rec ck (.e a c) | _ => false)
    | _ => false
  | .zip c d => match tg with
    | .Tuple _ _ _ => (match it with | .Call (.Name x _) [a, b] [] _ => decide (x = ("zip" : Str)) && glB ck x && noStar a && noStar b && rec ck (.e a c) && rec ck (.e b d) | _ => false)
    | _ => false
  | .enumzip _ _ => false
def chkG (ck : Ck) (tg : Expr) (t : T) (is : List Nat) : Bool := match t with
  | .name i => (match tg with | .Name x _ => locB ck i x && decide (i ∈ is) | _ => false)
  | .tup ts => (match tg with | .Tuple es _ _ => es.all noStar && decide (es.length = ts.length) && rec ck (.gs es ts is) | _ => false)
def chkGs (ck : Ck) (tgs : List Expr) (ts : List T) (is : List Nat) : Bool := match tgs, ts with
  | [], [] => true
  | e :: es, t :: ts => noStar e && rec ck (.g e t is) && rec ck (.gs es ts is)
  | _, _ => false
def chkC (ck : Ck) (ifs : List Expr) (c : Option E) : Bool := match ifs, c with
  | [], none => true
  | [e], some c => rec ck (.t e c)
  | _, _ => false
end
section
variable {φ : Fn} {rec : Ck → Tk → Bool} (hrec : ∀ (X : Cx) (ck : Ck) (tk : Tk), Good X φ ck → rec ck tk = true → Snd X φ tk)
include hrec
theorem lc_parts {X : Cx} {ck : Ck} (g : Good X φ ck) {elt tg iter : Expr} {ifs : List Expr} {scope : Scope} {el : E} {t : T} {it : It} {c : Option E} {vs : List Nat} (h : lcB rec ck elt tg iter ifs scope el t it c vs = true) :
    vs = (blkV ck.N scope).map (·.2) ∧ BlkOk X.N X.env.scope scope (blkV ck.N scope) ∧ (∀ env x, foldedSetIterable iter env x = pure x) ∧ SndI X tg iter (evI φ it) ∧ (∀ i ∈ tIx t, i ∈ (blkV ck.N scope).map (·.2)) ∧ (Blk X scope fun Y => SndG Y tg (setT t) (tIx t)) ∧ (Blk X scope fun Y => SndC Y ifs c φ) ∧ (Blk X scope fun Y => SndE Y elt (evE φ el)) := by
  unfold lcB at h
  simp only [Bool.and_eq_true, List.all_eq_true, decide_eq_true_eq] at h
  obtain ⟨⟨⟨⟨⟨⟨⟨h1, h2⟩, h3⟩, h4⟩, h5⟩, h6⟩, h7⟩, h8⟩ := h
  have ok := blkOk_by h2
  have gb := g.blk ok.kind
  refine ⟨h1, by rw [g.N, g.sc]; exact ok, noSet_c h3, hrec X ck _ g h4, fun i hi => by rw [← h1]; exact h5 i hi, fun s H C cl fp => hrec _ _ _ (gb s H C cl fp) h6, fun s H C cl fp => hrec _ _ _ (gb s H C cl fp) h7, fun s H C cl fp => hrec _ _ _ (gb s H C cl fp) h8⟩
theorem lc2_parts {X : Cx} {ck : Ck} (g : Good X φ ck) {elt tg iter tg2 iter2 : Expr} {ifs ifs2 : List Expr} {scope : Scope} {el : E} {t t2 : T} {it it2 : It} {c c2 : Option E} {vs vs2 : List Nat} (h : lc2B rec ck elt tg iter ifs tg2 iter2 ifs2 scope el t it c t2 it2 c2 vs vs2 = true) :
    lcB rec ck elt tg iter ifs scope el t it c vs = true ∧ (∀ i ∈ vs2, i ∈ (blkV ck.N scope).map (·.2)) ∧ (∀ env x, foldedSetIterable iter2 env x = pure x) ∧ (Blk X scope fun Y => SndI Y tg2 iter2 (evI φ it2)) ∧ (∀ i ∈ tIx t2, i ∈ vs2) ∧ (Blk X scope fun Y => SndG Y tg2 (setT t2) (tIx t2)) ∧ (Blk X scope fun Y => SndC Y ifs2 c2 φ) := by
  unfold lc2B at h
  simp only [Bool.and_eq_true] at h
  obtain ⟨⟨⟨⟨⟨⟨h0, h1⟩, h2⟩, h3⟩, h4⟩, h5⟩, h6⟩ := h
  have hl : lcB rec ck elt tg iter ifs scope el t it c vs = true := by
    unfold lcB
    simp only [Bool.and_eq_true]
    exact h0
  obtain ⟨e1, _⟩ := lc_parts hrec g hl
  have h2' : blkC ck.N ck.sc scope (blkV ck.N scope) = true := h0.1.1.1.1.1.1.2
  have gb := g.blk (blkOk_by h2').kind
  simp only [List.all_eq_true, decide_eq_true_eq] at h1 h4
  exact ⟨hl, fun i hi => by rw [← e1]; exact h1 i hi, noSet_c h2, fun s H C cl fp => hrec _ _ _ (gb s H C cl fp) h3, h4, fun s H C cl fp => hrec _ _ _ (gb s H C cl fp) h5, fun s H C cl fp => hrec _ _ _ (gb s H C cl fp) h6⟩
end
end LI

set_option Elab.async false
set_option linter.all false
set_option autoImplicit false
set_option maxRecDepth 100000
set_option maxHeartbeats 4000000
namespace LI
open PySem PySem.Spec PyProof.Rows L2
theorem cst_ok {X : Cx} {φ : Fn} {ck : Ck} (g : Good X φ ck) {e : Expr} {d : PyData} (h : cstB ck e d = true) : SndE X e (evE φ (.cst d)) := by
  unfold cstB at h
  split at h
  · split at h
    · cases of_decide_eq_true h; exact snd_cst pe_int fun _ => .int _
    · cases h
  · split at h
    · cases of_decide_eq_true h; exact snd_cst pe_bl fun _ => .bl _
    · cases h
  · split at h
    · cases of_decide_eq_true h; exact snd_cst pe_str fun _ => .str _
    · cases h
  · split at h
    · exact snd_cst pe_non fun _ => .non
    · cases h
  · split at h
    · simp only [Bool.and_eq_true] at h
      obtain ⟨u, m, r⟩ := g.gi _ (of_decide_eq_true h.2)
      exact snd_cst (pe_glob (g.gl h.1.1) m r (okN_c h.1.2).1) fun _ => .int _
    · cases h
  · cases h
section
variable {φ : Fn} {rec : Ck → Tk → Bool} (hrec : ∀ (X : Cx) (ck : Ck) (tk : Tk), Good X φ ck → rec ck tk = true → Snd X φ tk)
include hrec
theorem chkE_ok {X : Cx} {ck : Ck} (g : Good X φ ck) {e : Expr} {c : E} (h : chkE rec ck e c = true) : SndE X e (evE φ c) := by
  unfold chkE at h
  split at h
  · split at h
    · obtain ⟨h1, h2, h3, h4⟩ := g.vis h
      exact snd_var h1 h2 h3 h4
    · cases h
  · exact cst_ok g h
  · split at h
    · exact snd_tup (hrec X ck _ g h)
    · cases h
  · split at h
    · exact snd_lst (hrec X ck _ g h)
    · cases h
  · cases h
  · rename_i f ks mu cs
    split at h
    · simp only [Bool.and_eq_true, decide_eq_true_eq] at h
      obtain ⟨⟨⟨⟨⟨h1, h2⟩, h3⟩, h4⟩, h5⟩, h6⟩ := h
      subst h1
      obtain rfl : ks = [] := by simpa using h3
      obtain rfl : cs = [] := by simpa using h4
      obtain ⟨fa, fd, ps, k, F, R⟩ := g.fs _ h2
      exact snd_call0 F R (g.gl h5) (okN_c h6).1
    · simp only [Bool.and_eq_true, decide_eq_true_eq] at h
      obtain ⟨⟨⟨⟨⟨⟨h1, h2⟩, h3⟩, h5⟩, h6⟩, h7⟩, h8⟩ := h
      subst h1
      obtain rfl : ks = [] := by simpa using h3
      obtain ⟨fa, fd, ps, k, F, R⟩ := g.fs _ h2
      exact snd_call F R (g.gl h5) (okN_c h6).1 h7 (hrec X ck _ g h8)
    · simp only [Bool.and_eq_true, decide_eq_true_eq, Bool.not_eq_true'] at h
      obtain ⟨⟨⟨⟨⟨⟨⟨⟨h1, h2⟩, h3⟩, h4⟩, h5⟩, h6⟩, h7⟩, h8⟩, h9⟩ := h
      subst h1
      obtain rfl : mu = [] := by simpa using h3
      obtain ⟨fa, fd, ps, k, F, R, B⟩ := g.kb _ h2
      exact snd_callK F R (g.gl h5) (okN_c h6).1 B h7 h4 h8 (hrec X ck _ g h9)
    · cases h
  · split at h
    · rename_i es he
      exact snd_prim (hrec X ck _ g h) (primArgs_ok g he)
    · cases h
  · split at h
    · rw [Bool.and_eq_true] at h
      exact snd_and (hrec X ck _ g h.1) (hrec X ck _ g h.2 _)
    · cases h
  · split at h
    · rw [Bool.and_eq_true] at h
      exact snd_or (hrec X ck _ g h.1) (hrec X ck _ g h.2 _)
    · cases h
  · split at h
    · exact snd_not (hrec X ck _ g h)
    · cases h
  · split at h
    · rw [Bool.and_eq_true, Bool.and_eq_true] at h
      exact snd_ite (hrec X ck _ g h.1.1) (hrec X ck _ g h.1.2) (hrec X ck _ g h.2)
    · cases h
  · split at h
    · simp only [Bool.and_eq_true] at h
      obtain ⟨⟨⟨⟨h1, h2⟩, h3⟩, h4⟩, h5⟩ := h
      obtain ⟨r, o1, p1, b1, n1, n2⟩ := ord_ok (X := X) h1
      obtain ⟨r', o2, p2, b2, n3, n4⟩ := ord_ok (X := X) h2
      exact snd_chain o1 o2 p1 p2 b1 (last_no n3 n4) (hrec X ck _ g h3) (hrec X ck _ g h4) (hrec X ck _ g h5)
    · cases h
  · split at h
    · obtain ⟨h1, h2, h3, h4, h5, h6, h7, h8⟩ := lc_parts hrec g h
      subst h1
      exact snd_lc g.calm g.nd h4 h2 h5 h6 h7 h8 (h3 _)
    · cases h
  · split at h
    · obtain ⟨hl, k2, k3, k4, k5, k6, k7⟩ := lc2_parts hrec g h
      obtain ⟨h1, h2, h3, h4, h5, h6, h7, h8⟩ := lc_parts hrec g hl
      subst h1
      exact snd_lc2 g.calm g.nd h4 h2 k2 h5 k5 h6 h7 k4 k6 k7 h8 (h3 _) k3
    · cases h
  · split at h
    · simp only [Bool.and_eq_true, decide_eq_true_eq] at h
      obtain ⟨⟨⟨⟨h1, h2⟩, h3⟩, h4⟩, h5⟩ := h
      subst h1
      obtain ⟨v1, v2, v3, v4⟩ := g.vis h2
      exact snd_popAt v1 v2 v3 v4 h3 h4 (hrec X ck _ g h5)
    · cases h
  · split at h
    · split at h
      · rw [Bool.and_eq_true, Bool.and_eq_true] at h
        exact snd_sl2 (hrec X ck _ g h.1.1) (hrec X ck _ g h.1.2) (hrec X ck _ g h.2)
      · cases h
    · cases h
  · split at h
    · split at h
      · simp only [Bool.and_eq_true, decide_eq_true_eq] at h
        obtain ⟨⟨⟨⟨⟨h1, h2⟩, h3⟩, h4⟩, h5⟩, h6⟩ := h
        subst h1
        exact snd_index g.un (noCall_c h2 _ _) h3 h4 (hrec X ck _ g h5) (hrec X ck _ g h6)
      · cases h
    · cases h
theorem chkT_ok {X : Cx} {ck : Ck} (g : Good X φ ck) {e : Expr} {c : E} (h : chkT rec ck e c = true) : SndT X e (evT φ c) := by
  unfold chkT at h
  split at h
  · split at h
    · exact sndT_not (hrec X ck _ g h)
    · cases h
  · exact (hrec X ck _ g h _).t
  · split at h
    · rw [Bool.and_eq_true] at h
      have h2 := h.2
      split at h2
      · rename_i es he
        exact sndT_prim (hrec X ck _ g h2) (primArgsT_ok g h.1 he) (isBool_cmp h.1)
      · cases h2
    · split at h
      · simp only [Bool.and_eq_true] at h
        obtain ⟨⟨⟨⟨h1, h2⟩, h3⟩, h4⟩, h5⟩ := h
        obtain ⟨r, o1, p1, b1, n1, n2⟩ := ord_ok (X := X) h1
        obtain ⟨r', o2, p2, b2, n3, n4⟩ := ord_ok (X := X) h2
        exact sndT_chain o1 o2 p1 p2 b1 b2 (last_no n3 n4) (hrec X ck _ g h3) (hrec X ck _ g h4) (hrec X ck _ g h5)
      · cases h
    · cases h
  · cases h
  · rename_i n1 n2 n3 n4
    refine sndT_plain ?_ (hrec X ck _ g h)
    cases e <;> first | rfl | (exact (n3 _ _ _ _ rfl).elim) | (exact (n2 _ _ _ rfl).elim) | (exact (n4 _ _ _ _ rfl).elim) | skip
    rename_i op x pos
    cases op <;> first | rfl | (exact (n1 _ _ rfl).elim)
theorem chkB_ok {X : Cx} {ck : Ck} (g : Good X φ ck) {op : BoolOp} {es : List Expr} {c : E} (h : chkB rec ck op es c = true) (pos : Pos) : SndE X (.BoolOp op es pos) (evE φ c) := by
  unfold chkB at h
  split at h
  · cases h
  · exact snd_one (hrec X ck _ g h)
  · split at h
    · split at h
      · rw [Bool.and_eq_true] at h
        exact snd_and (hrec X ck _ g h.1) (hrec X ck _ g h.2 _)
      · cases h
    · split at h
      · rw [Bool.and_eq_true] at h
        exact snd_or (hrec X ck _ g h.1) (hrec X ck _ g h.2 _)
      · cases h
theorem chkW_ok {X : Cx} {ck : Ck} (g : Good X φ ck) {op : BoolOp} {es : List Expr} {c : E} (h : chkW rec ck op es c = true) (pos : Pos) : SndW X (.BoolOp op es pos) (evT φ c) := by
  unfold chkW at h
  split at h
  · cases h
  · cases op
    · exact sndW_and1 (hrec X ck _ g h)
    · exact sndW_or1 (hrec X ck _ g h)
  · split at h
    · split at h
      · rw [Bool.and_eq_true] at h
        exact sndW_and (hrec X ck _ g h.1) (hrec X ck _ g h.2 _)
      · cases h
    · split at h
      · rw [Bool.and_eq_true] at h
        exact sndW_or (hrec X ck _ g h.1) (hrec X ck _ g h.2 _)
      · cases h
theorem chkL_ok {X : Cx} {ck : Ck} (g : Good X φ ck) {es : List Expr} {cs : List E} (h : chkL rec ck es cs = true) : SndL X es (evL φ cs) := by
  unfold chkL at h
  split at h
  · exact sndL_nil
  · rw [Bool.and_eq_true] at h
    exact sndL_star (hrec X ck _ g h.1) (hrec X ck _ g h.2)
  · simp only [Bool.and_eq_true, Bool.not_eq_true'] at h
    obtain ⟨⟨⟨h1, h2⟩, h3⟩, h4⟩ := h
    exact sndL_cons h1 h2 (hrec X ck _ g h3) (hrec X ck _ g h4)
  · cases h
theorem chkO_ok {X : Cx} {ck : Ck} (g : Good X φ ck) {es : List Expr} {cs : List E} (h : chkO rec ck es cs = true) : SndO X es (evO φ cs) := by
  unfold chkO at h
  split at h
  · exact sndO_nil
  · rename_i e es c cs
    rw [Bool.and_eq_true] at h
    obtain ⟨h1, h2⟩ := h
    split at h1
    · split at h1
      · obtain ⟨v1, v2, v3, v4⟩ := g.vis h1
        exact sndO_var v1 v2 v3 v4 (hrec X ck _ g h2)
      · cases h1
    · rename_i hv
      refine sndO_cons ?_ (hrec X ck _ g h1) (hrec X ck _ g h2)
      cases c <;> first | rfl | (exact (hv _ rfl).elim)
  · cases h
theorem chkA_ok {X : Cx} {ck : Ck} (g : Good X φ ck) {es : List Expr} {cs : List E} {mu : List Bool} (h : chkA rec ck es cs mu = true) : SndA X es (evA φ cs mu) := by
  unfold chkA at h
  split at h
  · exact sndA_nil
  · rename_i e es c cs
    rw [Bool.and_eq_true] at h
    obtain ⟨h1, h2⟩ := h
    split at h1
    · rename_i i hb
      rw [Bool.and_eq_true] at h1
      obtain ⟨h3, h4⟩ := h1
      split at h4
      · cases of_decide_eq_true h4
        split at h3
        · rw [Bool.and_eq_true] at h3
          obtain ⟨v1, v2, v3, v4⟩ := g.vis h3.2
          exact sndA_var h3.1 v1 v2 v3 v4 (hrec X ck _ g h2)
        · cases h3
      · cases h4
    · rename_i hb
      exact sndA_cons hb (hrec X ck _ g h1) (hrec X ck _ g h2)
  · cases h
theorem chkV_ok {X : Cx} {ck : Ck} (g : Good X φ ck) {es : List Expr} {cs : List E} (h : chkV rec ck es cs = true) : SndV X es (evV φ cs) := by
  unfold chkV at h
  split at h
  · exact sndV_nil
  · rw [Bool.and_eq_true] at h
    exact sndV_cons (hrec X ck _ g h.1) (hrec X ck _ g h.2)
  · cases h
theorem chkI_ok {X : Cx} {ck : Ck} (g : Good X φ ck) {tg it : Expr} {c : It} (h : chkI rec ck tg it c = true) : SndI X tg it (evI φ c) := by
  have rb : X.mg "range" = none := g.bi _ (by decide +kernel)
  have eb : X.mg "enumerate" = none := g.bi _ (by decide +kernel)
  have zb : X.mg "zip" = none := g.bi _ (by decide +kernel)
  unfold chkI at h
  split at h
  · exact sndI_seq (hrec X ck _ g h)
  · split at h
    · simp only [Bool.and_eq_true, decide_eq_true_eq] at h
      obtain ⟨⟨⟨h1, h2⟩, h3⟩, h4⟩ := h
      subst h1
      exact sndI_rng1 (g.gl h2) rb h3 (hrec X ck _ g h4)
    · cases h
  · split at h
    · simp only [Bool.and_eq_true, decide_eq_true_eq] at h
      obtain ⟨⟨⟨⟨⟨h1, h2⟩, h3⟩, h4⟩, h5⟩, h6⟩ := h
      subst h1
      exact sndI_rng2 (g.gl h2) rb h3 h4 (hrec X ck _ g h5) (hrec X ck _ g h6)
    · cases h
  · split at h
    · split at h
      · simp only [Bool.and_eq_true, decide_eq_true_eq] at h
        obtain ⟨⟨⟨h1, h2⟩, h3⟩, h4⟩ := h
        subst h1
        exact sndI_enum (g.gl h2) eb h3 (hrec X ck _ g h4)
      · cases h
    · cases h
  · split at h
    · split at h
      · simp only [Bool.and_eq_true, decide_eq_true_eq] at h
        obtain ⟨⟨⟨⟨⟨h1, h2⟩, h3⟩, h4⟩, h5⟩, h6⟩ := h
        subst h1
        exact sndI_zip (g.gl h2) zb h3 h4 (hrec X ck _ g h5) (hrec X ck _ g h6)
      · cases h
    · cases h
  · cases h
theorem chkG_ok {X : Cx} {ck : Ck} (g : Good X φ ck) {tg : Expr} {t : T} {is : List Nat} (h : chkG rec ck tg t is = true) : SndG X tg (setT t) is := by
  unfold chkG at h
  split at h
  · split at h
    · rw [Bool.and_eq_true, decide_eq_true_eq] at h
      obtain ⟨v1, v2, v3⟩ := g.loc h.1
      exact sndG_name g.nd v1 v2 v3 h.2
    · cases h
  · split at h
    · simp only [Bool.and_eq_true, decide_eq_true_eq] at h
      exact sndG_tup g.calm h.1.1 h.1.2 (hrec X ck _ g h.2)
    · cases h
theorem chkGs_ok {X : Cx} {ck : Ck} (g : Good X φ ck) {tgs : List Expr} {ts : List T} {is : List Nat} (h : chkGs rec ck tgs ts is = true) : SndGs X tgs (setTs ts) is := by
  unfold chkGs at h
  split at h
  · exact sndGs_nil
  · rw [Bool.and_eq_true, Bool.and_eq_true] at h
    exact sndGs_cons h.1.1 (hrec X ck _ g h.1.2) (hrec X ck _ g h.2)
  · cases h
theorem chkC_ok {X : Cx} {ck : Ck} (g : Good X φ ck) {ifs : List Expr} {c : Option E} (h : chkC rec ck ifs c = true) : SndC X ifs c φ := by
  unfold chkC at h
  split at h
  · trivial
  · exact hrec X ck _ g h
  · cases h
end
end LI

set_option Elab.async false
set_option linter.all false
set_option autoImplicit false
set_option maxRecDepth 100000
set_option maxHeartbeats 4000000
namespace LI
open PySem PySem.Spec PyProof.Rows L2
/-! ### whether a value swaps with its name -/
def swapV (sc : Scope) (v : Expr) (x : Str) (np : Pos) : Bool := match v with
  | .ListComp _ _ s p | .SetComp _ _ s p | .DictComp _ _ _ s p => (sc.names.lookup x == some .local) && (np.line == p.line) && !(s.names.any fun (n, k) => n == x && (k == .local || k == .cell))
  | _ => false
theorem swap_eq {env : Env} {v : Expr} {x : Str} {np : Pos} {line : Nat} (hk : env.scope.kind = .function) : swapsWith v (some (.Name x np)) line env = pure (swapV env.scope v x np) := by
  have hb : (env.blockKind == .function) = true := by
    unfold Env.blockKind
    rw [hk]; rfl
  cases v <;> first | rfl | skip
  all_goals
    unfold swapsWith swapV
    simp only [Env.kindOf, hb, Bool.true_and]
    rfl
def noComp : Expr → Bool
  | .ListComp _ _ _ _ | .SetComp _ _ _ _ | .DictComp _ _ _ _ _ => false
  | _ => true
theorem noComp_c {v : Expr} {t : Option Expr} {line : Nat} {env : Env} (h : noComp v = true) : swapsWith v t line env = pure false := by
  cases v <;> first | rfl | (simp [noComp] at h)
def noName : Expr → Bool
  | .Name _ _ => false
  | _ => true
theorem noName_c {v t : Expr} {line : Nat} {env : Env} (h : noName t = true) : swapsWithSole [t] v line env = pure false := by
  show swapsWith v (some t) line env = pure false
  cases v <;> first | rfl | skip
  all_goals (cases t <;> first | rfl | (simp [noName] at h))
/-! ### stores of several names -/
def isTupE : Expr → Bool
  | .Tuple _ _ _ => true
  | _ => false
theorem sw_noTup {t v : Expr} {env : Env} (h : isTupE v = false) : swappedStores [t] v env = pure none := by
  cases v <;> first | (simp [isTupE] at h; done) | skip
  all_goals (cases t <;> rfl)
theorem sw_noTg {t v : Expr} {env : Env} (h : isTupE t = false) (h2 : (match t with | .List _ _ => true | _ => false) = false) : swappedStores [t] v env = pure none := by
  cases t <;> first | (simp [isTupE] at h; done) | (simp at h2; done) | skip
  all_goals (cases v <;> rfl)
theorem sw_len {ts vs : List Expr} {k k2 : Nat} {p p2 : Pos} {env : Env} (h : (ts.length == 2 || ts.length == 3) = false) : swappedStores [.Tuple ts k p] (.Tuple vs k2 p2) env = pure none := by
  unfold swappedStores
  simp only [h]
  rfl
theorem sw_fold {ts vs : List Expr} {k k2 : Nat} {p p2 : Pos} {env : Env} (h : vs.all (foldedForSure 8) = true) : swappedStores [.Tuple ts k p] (.Tuple vs k2 p2) env = pure none := by
  unfold swappedStores
  dsimp only
  split
  · rfl
  · split
    · rfl
    · split
      · rfl
      · first | rfl | rw [if_pos h]
theorem sw_cell2 {x y : Str} {px py : Pos} {vs : List Expr} {k k2 : Nat} {p p2 : Pos} {env : Env} (h : (env.kindOf x == some NameKind.local && env.kindOf y == some NameKind.local) = false) : swappedStores [.Tuple [.Name x px, .Name y py] k p] (.Tuple vs k2 p2) env = pure none := by
  unfold swappedStores
  dsimp only
  split
  · rfl
  · split
    · rfl
    · refine if_pos ?_
      simp only [List.filterMap_cons, List.filterMap_nil]
      cases q1 : (env.kindOf x == some NameKind.local) with
      | false =>
        simp only [q1, Bool.false_and]
        cases q2 : (env.kindOf y == some NameKind.local && py.line == (Option.map (fun x => x.pos.line) [Expr.Name x px, Expr.Name y py].head?).getD 0) <;> simp [q2]
      | true =>
        rw [q1] at h
        have h : (env.kindOf y == some NameKind.local) = false := by simpa using h
        simp only [h, Bool.false_and]
        cases q2 : (true && px.line == (Option.map (fun x => x.pos.line) [Expr.Name x px, Expr.Name y py].head?).getD 0) <;> simp [q2]
theorem sw_cell3 {x y z : Str} {px py pz : Pos} {vs : List Expr} {k k2 : Nat} {p p2 : Pos} {env : Env} (h : (env.kindOf x == some NameKind.local && env.kindOf y == some NameKind.local && env.kindOf z == some NameKind.local) = false) : swappedStores [.Tuple [.Name x px, .Name y py, .Name z pz] k p] (.Tuple vs k2 p2) env = pure none := by
  unfold swappedStores
  dsimp only
  split
  · rfl
  · split
    · rfl
    · refine if_pos ?_
      simp only [List.filterMap_cons, List.filterMap_nil]
      generalize (Option.map (fun x => x.pos.line) [Expr.Name x px, Expr.Name y py, Expr.Name z pz].head?).getD 0 = l
      cases q1 : (env.kindOf x == some NameKind.local) <;> cases q2 : (env.kindOf y == some NameKind.local) <;> cases q3 : (env.kindOf z == some NameKind.local) <;> first | (rw [q1, q2, q3] at h; cases h; done) | skip
      all_goals (cases (px.line == l) <;> cases (py.line == l) <;> cases (pz.line == l) <;> simp)
def cellB (ck : Ck) : List Expr → Bool
  | [.Name x _, .Name y _] => !(ck.sc.names.lookup x == some .local && ck.sc.names.lookup y == some .local)
  | [.Name x _, .Name y _, .Name z _] => !(ck.sc.names.lookup x == some .local && ck.sc.names.lookup y == some .local && ck.sc.names.lookup z == some .local)
  | _ => false
def swNoneB (ck : Ck) (tgs es : List Expr) : Bool := !(tgs.length == 2 || tgs.length == 3) || es.all (foldedForSure 8) || cellB ck tgs
theorem swNone_ok {ck : Ck} {env : Env} {tgs es : List Expr} {k k2 : Nat} {p p2 : Pos} (hsc : env.scope = ck.sc) (h : swNoneB ck tgs es = true) : swappedStores [.Tuple tgs k p] (.Tuple es k2 p2) env = pure none := by
  unfold swNoneB at h
  rw [Bool.or_eq_true, Bool.or_eq_true] at h
  rcases h with (h | h) | h
  · exact sw_len (by simpa using h)
  · exact sw_fold h
  · unfold cellB at h
    split at h
    · exact sw_cell2 (by unfold Env.kindOf; rw [hsc]; exact (Bool.not_eq_true' _).mp h)
    · exact sw_cell3 (by unfold Env.kindOf; rw [hsc]; exact (Bool.not_eq_true' _).mp h)
    · cases h
def namesB (ck : Ck) : List Nat → List Expr → Bool
  | [], [] => true
  | i :: is, .Name x _ :: es => locB ck i x && namesB ck is es
  | _, _ => false
theorem names_ok {X : Cx} {φ : Fn} {ck : Ck} (g : Good X φ ck) : ∀ {is : List Nat} {es : List Expr}, namesB ck is es = true → Paired (fun i e => ∃ x p, e = Expr.Name x p ∧ X.N[i]? = some x ∧ L2.Loc X.env.scope x ∧ (X.fn x = true ∨ X.env.scope.names.lookup x = some .local)) is es ∧ es.all noStar = true
  | [], [], _ => ⟨.nil, rfl⟩
  | i :: is, e :: es, h => by
    unfold namesB at h
    split at h
    · contradiction
    · rename_i i' is' x p es' e1 e2
      cases e1; cases e2
      rw [Bool.and_eq_true] at h
      obtain ⟨h1, h2⟩ := names_ok g h.2
      exact ⟨.cons ⟨x, p, rfl, g.loc h.1⟩ h1, by rw [List.all_cons, h2]; rfl⟩
    · cases h
  | [], _ :: _, h => by simp [namesB] at h
  | _ :: _, [], h => by simp [namesB] at h
def par2B (ck : Ck) (x y : Str) (px py : Pos) (a b : Expr) : Bool := decide (ck.sc.names.lookup x = some .local) && decide (ck.sc.names.lookup y = some .local) && decide (x ≠ y) && (py.line == px.line) && noStar a && noStar b && !([a, b].all (foldedForSure 8)) && !([a, b].all (constantsAlone 8))
theorem starAny {l : List Expr} (h : l.all noStar = true) : (l.any fun | .Starred .. => true | _ => false) = false := by
  rw [List.any_eq_false]
  intro e he
  have := List.all_eq_true.mp h e he
  cases e <;> first | (simp [noStar] at this; done) | simp
theorem par2_sw {ck : Ck} {env : Env} {x y : Str} {px py : Pos} {a b : Expr} {kt k2 : Nat} {pt pt2 : Pos} (hsc : env.scope = ck.sc) (hk : env.scope.kind = .function) (h : par2B ck x y px py a b = true) : swappedStores [.Tuple [.Name x px, .Name y py] kt pt] (.Tuple [a, b] k2 pt2) env = pure (some [x, y]) := by
  unfold par2B at h
  simp only [Bool.and_eq_true, decide_eq_true_eq, Bool.not_eq_true'] at h
  obtain ⟨⟨⟨⟨⟨⟨⟨h1, h2⟩, h3⟩, h4⟩, h5⟩, h6⟩, h7⟩, h8⟩ := h
  have hb : (env.blockKind != .function) = false := by
    unfold Env.blockKind
    rw [hk]; rfl
  have e1 : (env.kindOf x == some NameKind.local) = true := by unfold Env.kindOf; rw [hsc, h1]; rfl
  have e2 : (env.kindOf y == some NameKind.local) = true := by unfold Env.kindOf; rw [hsc, h2]; rfl
  have e3 : ([a, b].any fun | .Starred .. => true | _ => false) = false := starAny (by simp [h5, h6])
  have e4 : ([x, y].eraseDups.length != [x, y].length) = false := by
    have : (y == x) = false := by simp; exact fun z => h3 z.symm
    simp [List.eraseDups_cons, this]
  have e0 : ([Expr.Name x px, Expr.Name y py].filterMap fun
    | .Name id pos => if env.kindOf id == some .local && pos.line == (([Expr.Name x px, Expr.Name y py].head?.map (·.pos.line)).getD 0) then some id else none
    | _ => none) = [x, y] := by
    have q1 : (px.line == (([Expr.Name x px, Expr.Name y py].head?.map (·.pos.line)).getD 0)) = true := by show (px.line == px.line) = true; simp
    have q2 : (py.line == (([Expr.Name x px, Expr.Name y py].head?.map (·.pos.line)).getD 0)) = true := by show (py.line == px.line) = true; exact h4
    simp only [List.filterMap_cons, List.filterMap_nil, e1, e2, q1, q2, Bool.and_self, if_true]
  have key : ∀ nm : List Str, nm = [x, y] → (if (nm.length != [Expr.Name x px, Expr.Name y py].length || nm.eraseDups.length != nm.length) = true then (pure none : Sem (Option (List Str))) else if ([a, b].all (foldedForSure 8)) = true then pure none else if ([a, b].all (constantsAlone 8)) = true then (do unsupported "assign.tuple-of-constant-expressions:order-of-the-stores"; pure (some nm)) else pure (some nm)) = pure (some [x, y]) := by
    intro nm hn
    subst hn
    rw [if_neg (by show ¬ ((false || ([x, y].eraseDups.length != [x, y].length)) = true); rw [e4]; decide), if_neg (by rw [h7]; decide), if_neg (by rw [h8]; decide)]
  unfold swappedStores
  dsimp only
  refine (if_neg ?_).trans ((if_neg ?_).trans (key _ e0))
  · show ¬ ((false || (env.blockKind != ScopeKind.function)) = true)
    rw [hb]; decide
  · exact fun z => Bool.noConfusion (e3.symm.trans z)
def par3B (ck : Ck) (x y z : Str) (px py pz : Pos) (a b c : Expr) : Bool := decide (ck.sc.names.lookup x = some .local) && decide (ck.sc.names.lookup y = some .local) && decide (ck.sc.names.lookup z = some .local) && decide (x ≠ y) && decide (x ≠ z) && decide (y ≠ z) && (py.line == px.line) && (pz.line == px.line) && noStar a && noStar b && noStar c && !([a, b, c].all (foldedForSure 8)) && !([a, b, c].all (constantsAlone 8))
theorem par3_sw {ck : Ck} {env : Env} {x y z : Str} {px py pz : Pos} {a b c : Expr} {kt k2 : Nat} {pt pt2 : Pos} (hsc : env.scope = ck.sc) (hk : env.scope.kind = .function) (h : par3B ck x y z px py pz a b c = true) : swappedStores [.Tuple [.Name x px, .Name y py, .Name z pz] kt pt] (.Tuple [a, b, c] k2 pt2) env = pure (some [x, y, z]) := by
  unfold par3B at h
  simp only [Bool.and_eq_true, decide_eq_true_eq, Bool.not_eq_true'] at h
  obtain ⟨⟨⟨⟨⟨⟨⟨⟨⟨⟨⟨⟨h1, h2⟩, hz⟩, h3⟩, h3b⟩, h3c⟩, h4⟩, h4b⟩, h5⟩, h6⟩, h6b⟩, h7⟩, h8⟩ := h
  have hb : (env.blockKind != .function) = false := by
    unfold Env.blockKind
    rw [hk]; rfl
  have e1 : (env.kindOf x == some NameKind.local) = true := by unfold Env.kindOf; rw [hsc, h1]; rfl
  have e2 : (env.kindOf y == some NameKind.local) = true := by unfold Env.kindOf; rw [hsc, h2]; rfl
  have e2b : (env.kindOf z == some NameKind.local) = true := by unfold Env.kindOf; rw [hsc, hz]; rfl
  have e3 : ([a, b, c].any fun | .Starred .. => true | _ => false) = false := starAny (by simp [h5, h6, h6b])
  have e4 : ([x, y, z].eraseDups.length != [x, y, z].length) = false := by
    have t1 : (y == x) = false := by simp; exact fun z => h3 z.symm
    have t2 : (z == x) = false := by simp; exact fun w => h3b w.symm
    have t3 : (z == y) = false := by simp; exact fun w => h3c w.symm
    simp [List.eraseDups_cons, t1, t2, t3]
  have e0 : ([Expr.Name x px, Expr.Name y py, Expr.Name z pz].filterMap fun
    | .Name id pos => if env.kindOf id == some .local && pos.line == (([Expr.Name x px, Expr.Name y py, Expr.Name z pz].head?.map (·.pos.line)).getD 0) then some id else none
    | _ => none) = [x, y, z] := by
    have q1 : (px.line == (([Expr.Name x px, Expr.Name y py, Expr.Name z pz].head?.map (·.pos.line)).getD 0)) = true := by show (px.line == px.line) = true; simp
    have q2 : (py.line == (([Expr.Name x px, Expr.Name y py, Expr.Name z pz].head?.map (·.pos.line)).getD 0)) = true := by show (py.line == px.line) = true; exact h4
    have q3 : (pz.line == (([Expr.Name x px, Expr.Name y py, Expr.Name z pz].head?.map (·.pos.line)).getD 0)) = true := by show (pz.line == px.line) = true; exact h4b
    simp only [List.filterMap_cons, List.filterMap_nil, e1, e2, e2b, q1, q2, q3, Bool.and_self, if_true]
  have key : ∀ nm : List Str, nm = [x, y, z] → (if (nm.length != [Expr.Name x px, Expr.Name y py, Expr.Name z pz].length || nm.eraseDups.length != nm.length) = true then (pure none : Sem (Option (List Str))) else if ([a, b, c].all (foldedForSure 8)) = true then pure none else if ([a, b, c].all (constantsAlone 8)) = true then (do unsupported "assign.tuple-of-constant-expressions:order-of-the-stores"; pure (some nm)) else pure (some nm)) = pure (some [x, y, z]) := by
    intro nm hn
    subst hn
    rw [if_neg (by show ¬ ((false || ([x, y, z].eraseDups.length != [x, y, z].length)) = true); rw [e4]; decide), if_neg (by rw [h7]; decide), if_neg (by rw [h8]; decide)]
  unfold swappedStores
  dsimp only
  refine (if_neg ?_).trans ((if_neg ?_).trans (key _ e0))
  · show ¬ ((false || (env.blockKind != ScopeKind.function)) = true)
    rw [hb]; decide
  · exact fun z => Bool.noConfusion (e3.symm.trans z)
theorem isVarC_no {c : E} (h : ∀ i, c = .var i → False) : isVarC c = false := by
  cases c <;> first | rfl | exact (h _ rfl).elim
/-! ### statements -/
section
variable (rec : Ck → Tk → Bool)
def asgB (ck : Ck) (i : Nat) (x : Str) (v : Expr) (c : E) : Bool := match v with
  | .ListComp elt [⟨tg, iter, ifs, 0⟩] scope _ => (match c with
    | .lc el t it c vs => lcB rec ck elt tg iter ifs scope el t it c vs
    | _ => false)
  | .ListComp elt [⟨tg, iter, ifs, 0⟩, ⟨tg2, iter2, ifs2, 0⟩] scope _ => (match c with
    | .lc2 el t it c t2 it2 c2 vs vs2 => lc2B rec ck elt tg iter ifs tg2 iter2 ifs2 scope el t it c t2 it2 c2 vs vs2
    | _ => false)
  | _ => false
def uasgB (ts : List Expr) (v : Expr) : Bool := !isTupE v || !(ts.length == 2 || ts.length == 3)
def parS (ck : Ck) (is : List Nat) (cs : List E) (tgs es : List Expr) : Bool := match tgs with
  | [.Name x px, .Name y py] => (match es, is, cs with
    | [a, b], [i, j], [ca, cb] => par2B ck x y px py a b && decide (ck.N[i]? = some x) && decide (ck.N[j]? = some y) && decide (i ≠ j) && rec ck (.e a ca) && rec ck (.e b cb)
    | _, _, _ => false)
  | [.Name x px, .Name y py, .Name z pz] => (match es, is, cs with
    | [a, b, d], [i, j, l], [ca, cb, cd] => par3B ck x y z px py pz a b d && decide (ck.N[i]? = some x) && decide (ck.N[j]? = some y) && decide (ck.N[l]? = some z) && decide (i ≠ j) && decide (i ≠ l) && decide (j ≠ l) && rec ck (.e a ca) && rec ck (.e b cb) && rec ck (.e d cd)
    | _, _, _ => false)
  | _ => false
def chkS (ck : Ck) (st : Stmt) (c : S) : Bool := match c with
  | .asg i c => (match st with | .Assign [.Name x np] v _ => locB ck i x && (if swapV ck.sc v x np then asgB rec ck i x v c else rec ck (.e v c)) | _ => false)
  | .pasg is cs => (match st with
    | .Assign [.Tuple tgs _ _] (.Tuple es _ _) _ => parS rec ck is cs tgs es || (swNoneB ck tgs es && namesB ck is tgs && es.all noStar && decide (tgs.length = es.length) && decide (cs.length = es.length) && decide (es.length ≤ 1000) && rec ck (.v es cs))
    | _ => false)
  | .uasg ts c => (match st with | .Assign [.Tuple tgs k tp] v _ => uasgB tgs v && rec ck (.g (.Tuple tgs k tp) (.tup ts) (tIxs ts)) && rec ck (.e v c) | _ => false)
  | .seti i cix c => (match st with | .Assign [.Subscript (.Name x _) ix _] v _ => visB ck i x && noSlice ix && rec ck (.e ix cix) && rec ck (.e v c) | _ => false)
  | .app i c => (match st with | .Expr (.Call (.Attribute (.Name x _) nm apos) [a] [] cpos) _ => decide (nm = ("append" : Str)) && visB ck i x && (apos.endLine == cpos.line) && noStar a && rec ck (.e a c) | _ => false)
  | .ext i c => (match st with | .Expr (.Call (.Attribute (.Name x _) nm apos) [a] [] cpos) _ => decide (nm = ("extend" : Str)) && visB ck i x && (apos.endLine == cpos.line) && noStar a && rec ck (.e a c) | _ => false)
  | .expr c => (match st with | .Expr v _ => noComp v && rec ck (.e v c) | _ => false)
  | .ite c a b => (match st with | .If x p q _ => rec ck (.t x c) && rec ck (.ss p a) && rec ck (.ss q b) | _ => false)
  | .forS t it b => (match st with | .For tg iter body [] _ => noSetE iter && rec ck (.i tg iter it) && rec ck (.g tg t (tIx t)) && rec ck (.ss body b) | _ => false)
  | .whileS c b => (match st with | .While x body [] _ => rec ck (.t x c) && rec ck (.ss body b) | _ => false)
  | .ret c => (match st with
    | .Return (some v) _ => (match c with
      | .var i => (match v with | .Name x _ => visB ck i x | _ => false)
      | c => rec ck (.e v c))
    | _ => false)
  | .retN => (match st with | .Return none _ => true | _ => false)
  | .pass => (match st with | .Pass _ => true | _ => false)
  | .brk => (match st with | .Break _ => true | _ => false)
  | .cont => (match st with | .Continue _ => true | _ => false)
  | .never => true
def chkSs (ck : Ck) (sts : List Stmt) (cs : List S) : Bool := match sts, cs with
  | [], [] => true
  | st :: sts, c :: cs => rec ck (.s st c) && rec ck (.ss sts cs)
  | _, _ => false
def chk1 (ck : Ck) : Tk → Bool
  | .e e c => chkE rec ck e c
  | .t e c => chkT rec ck e c
  | .b op es c => chkB rec ck op es c
  | .w op es c => chkW rec ck op es c
  | .l es cs => chkL rec ck es cs
  | .o es cs => chkO rec ck es cs
  | .a es cs mu => chkA rec ck es cs mu
  | .v es cs => chkV rec ck es cs
  | .i tg it c => chkI rec ck tg it c
  | .g tg t is => chkG rec ck tg t is
  | .gs tgs ts is => chkGs rec ck tgs ts is
  | .c ifs c => chkC rec ck ifs c
  | .s st c => chkS rec ck st c
  | .ss sts cs => chkSs rec ck sts cs
end
def chk : Nat → Ck → Tk → Bool
  | 0, _, _ => false
  | n + 1, ck, tk => chk1 (chk n) ck tk
section
variable {φ : Fn} {rec : Ck → Tk → Bool} (hrec : ∀ (X : Cx) (ck : Ck) (tk : Tk), Good X φ ck → rec ck tk = true → Snd X φ tk)
include hrec
theorem asg_ok {X : Cx} {ck : Ck} (g : Good X φ ck) {i : Nat} {x : Str} {v : Expr} {c : E} {np pos : Pos} (hN : X.N[i]? = some x) (hl : X.env.scope.names.lookup x = some .local) (hsw : swapsWith v (some (.Name x np)) pos.line X.env = pure true) (h : asgB rec ck i x v c = true) : SndS X (.Assign [.Name x np] v pos) (evS φ (.asg i c)) := by
  unfold asgB at h
  split at h
  · split at h
    · obtain ⟨h1, h2, h3, h4, h5, h6, h7, h8⟩ := lc_parts hrec g h
      subst h1
      exact snd_asgLc g.calm g.nd hN hl hsw h4 h2 h5 h6 h7 h8 (h3 _)
    · cases h
  · split at h
    · obtain ⟨hl', k2, k3, k4, k5, k6, k7⟩ := lc2_parts hrec g h
      obtain ⟨h1, h2, h3, h4, h5, h6, h7, h8⟩ := lc_parts hrec g hl'
      subst h1
      exact snd_asgLc2 g.calm g.nd hN hl hsw h4 h2 k2 h5 k5 h6 h7 k4 k6 k7 h8 (h3 _) k3
    · cases h
  · cases h
theorem parS_ok {X : Cx} {ck : Ck} (g : Good X φ ck) {is : List Nat} {cs : List E} {tgs es : List Expr} {kt k2 : Nat} {pt pt2 pos : Pos} (h : parS rec ck is cs tgs es = true) : SndS X (.Assign [.Tuple tgs kt pt] (.Tuple es k2 pt2) pos) (evS φ (.pasg is cs)) := by
  unfold parS at h
  split at h
  · split at h
    · simp only [Bool.and_eq_true, decide_eq_true_eq] at h
      obtain ⟨⟨⟨⟨⟨h1, h2⟩, h3⟩, h4⟩, h5⟩, h6⟩ := h
      have h1' := h1
      unfold par2B at h1'
      simp only [Bool.and_eq_true, decide_eq_true_eq] at h1'
      exact snd_par2 g.calm g.nd (by rw [g.N]; exact h2) (by rw [g.N]; exact h3) h4 (by rw [g.sc]; exact h1'.1.1.1.1.1.1.1) (by rw [g.sc]; exact h1'.1.1.1.1.1.1.2) h1'.1.1.1.2 h1'.1.1.2 (par2_sw g.sc g.kind h1) (hrec X ck _ g h5) (hrec X ck _ g h6)
    · cases h
  · split at h
    · simp only [Bool.and_eq_true, decide_eq_true_eq] at h
      obtain ⟨⟨⟨⟨⟨⟨⟨⟨⟨h1, h2⟩, h3⟩, h3b⟩, h4⟩, h4b⟩, h4c⟩, h5⟩, h6⟩, h7⟩ := h
      have h1' := h1
      unfold par3B at h1'
      simp only [Bool.and_eq_true, decide_eq_true_eq] at h1'
      obtain ⟨⟨⟨⟨⟨⟨⟨⟨⟨⟨⟨⟨m1, m2⟩, mz⟩, m3⟩, m3b⟩, m3c⟩, m4⟩, m4b⟩, m5⟩, m6⟩, m6b⟩, m7⟩, m8⟩ := h1'
      exact snd_par3 g.calm g.nd (by rw [g.N]; exact h2) (by rw [g.N]; exact h3) (by rw [g.N]; exact h3b) h4 h4b h4c (by rw [g.sc]; exact m1) (by rw [g.sc]; exact m2) (by rw [g.sc]; exact mz) m5 m6 m6b (par3_sw g.sc g.kind h1) (hrec X ck _ g h5) (hrec X ck _ g h6) (hrec X ck _ g h7)
    · cases h
  · cases h
theorem chkS_ok {X : Cx} {ck : Ck} (g : Good X φ ck) {st : Stmt} {c : S} (h : chkS rec ck st c = true) : SndS X st (evS φ c) := by
  have hp : PassesOwn (model X.prog X.w) X.A X.env X.xe := by rw [g.xe]; exact PassesOwn.never
  unfold chkS at h
  split at h
  · split at h
    · rename_i x np v pos
      rw [Bool.and_eq_true] at h
      obtain ⟨v1, v2, v3⟩ := g.loc h.1
      have h2 := h.2
      have hs := swap_eq (env := X.env) (v := v) (x := x) (np := np) (line := pos.line) g.kind
      rw [g.sc] at hs
      split at h2
      · rename_i hsv
        rw [hsv] at hs
        have hl : X.env.scope.names.lookup x = some .local := by
          rw [g.sc]
          unfold swapV at hsv
          split at hsv <;> first | (cases hsv; done) | (simp only [Bool.and_eq_true, beq_iff_eq] at hsv; exact hsv.1.1)
        exact asg_ok hrec g v1 hl hs h2
      · rename_i hsv
        have hsv : swapV ck.sc v x np = false := by simpa using hsv
        rw [hsv] at hs
        exact snd_asg g.nd v1 v2 v3 hs (hrec X ck _ g h2)
    · cases h
  · split at h
    · rw [Bool.or_eq_true] at h
      rcases h with h | h
      · exact parS_ok hrec g h
      · simp only [Bool.and_eq_true, decide_eq_true_eq] at h
        obtain ⟨⟨⟨⟨⟨⟨h1, h2⟩, h3⟩, h4⟩, h5⟩, h6⟩, h7⟩ := h
        obtain ⟨n1, n2⟩ := names_ok g h2
        exact snd_parU g.calm g.nd n2 h3 h4 h5 h6 n1 (swNone_ok g.sc h1) (hrec X ck _ g h7)
    · cases h
  · split at h
    · rename_i tgs k tp v pos
      simp only [Bool.and_eq_true] at h
      obtain ⟨⟨h1, h2⟩, h3⟩ := h
      have hw : swappedStores [.Tuple tgs k tp] v X.env = pure none := by
        unfold uasgB at h1
        cases q : isTupE v with
        | false => exact sw_noTup q
        | true =>
          rw [q] at h1
          have h1 : (tgs.length == 2 || tgs.length == 3) = false := by simpa using h1
          cases v <;> first | (simp [isTupE] at q; done) | skip
          exact sw_len h1
      exact snd_uasg (noName_c rfl) hw rfl (hrec X ck _ g h2) (hrec X ck _ g h3)
    · cases h
  · split at h
    · simp only [Bool.and_eq_true] at h
      obtain ⟨⟨⟨h1, h2⟩, h3⟩, h4⟩ := h
      obtain ⟨v1, v2, v3, v4⟩ := g.vis h1
      exact snd_seti v1 v2 v3 v4 h2 (noName_c rfl) (sw_noTg rfl rfl) (hrec X ck _ g h3) (hrec X ck _ g h4)
    · cases h
  · split at h
    · simp only [Bool.and_eq_true, decide_eq_true_eq] at h
      obtain ⟨⟨⟨⟨h1, h2⟩, h3⟩, h4⟩, h5⟩ := h
      subst h1
      obtain ⟨v1, v2, v3, v4⟩ := g.vis h2
      exact snd_app v1 v2 v3 v4 h3 h4 (hrec X ck _ g h5)
    · cases h
  · split at h
    · simp only [Bool.and_eq_true, decide_eq_true_eq] at h
      obtain ⟨⟨⟨⟨h1, h2⟩, h3⟩, h4⟩, h5⟩ := h
      subst h1
      obtain ⟨v1, v2, v3, v4⟩ := g.vis h2
      exact snd_ext v1 v2 v3 v4 h3 h4 (hrec X ck _ g h5)
    · cases h
  · split at h
    · rw [Bool.and_eq_true] at h
      exact snd_expr (noComp_c h.1) (hrec X ck _ g h.2)
    · cases h
  · split at h
    · rw [Bool.and_eq_true, Bool.and_eq_true] at h
      exact snd_if (hrec X ck _ g h.1.1) (hrec X ck _ g h.1.2) (hrec X ck _ g h.2)
    · cases h
  · split at h
    · simp only [Bool.and_eq_true] at h
      obtain ⟨⟨⟨h1, h2⟩, h3⟩, h4⟩ := h
      exact snd_for hp g.calm (hrec X ck _ g h2) (hrec X ck _ g h3) (hrec X ck _ g h4) (noSet_c h1 _)
    · cases h
  · split at h
    · rw [Bool.and_eq_true] at h
      exact snd_while hp (hrec X ck _ g h.1) (hrec X ck _ g h.2)
    · cases h
  · split at h
    · split at h
      · split at h
        · obtain ⟨v1, v2, v3, v4⟩ := g.vis h
          exact snd_retV v1 v2 v3 v4
        · cases h
      · exact snd_ret (isVarC_no (by assumption)) (hrec X ck _ g h)
    · cases h
  · split at h
    · exact snd_retN
    · cases h
  · split at h
    · exact snd_pass
    · cases h
  · split at h
    · exact snd_brk
    · cases h
  · split at h
    · exact snd_cont
    · cases h
  · exact snd_never
theorem chkSs_ok {X : Cx} {ck : Ck} (g : Good X φ ck) {sts : List Stmt} {cs : List S} (h : chkSs rec ck sts cs = true) : SndSs X sts (evSs φ cs) := by
  unfold chkSs at h
  split at h
  · exact sndSs_nil
  · rw [Bool.and_eq_true] at h
    exact sndSs_cons (hrec X ck _ g h.1) (hrec X ck _ g h.2)
  · cases h
end
theorem chk_ok {φ : Fn} : ∀ (n : Nat) (X : Cx) (ck : Ck) (tk : Tk), Good X φ ck → chk n ck tk = true → Snd X φ tk
  | 0, _, _, _, _, h => by simp [chk] at h
  | n + 1, X, ck, tk, g, h => by
    have hrec := chk_ok (φ := φ) n
    unfold chk at h
    cases tk with
    | e e c => exact chkE_ok hrec g h
    | t e c => exact chkT_ok hrec g h
    | b op es c => exact chkB_ok hrec g h
    | w op es c => exact chkW_ok hrec g h
    | l es cs => exact chkL_ok hrec g h
    | o es cs => exact chkO_ok hrec g h
    | a es cs mu => exact chkA_ok hrec g h
    | v es cs => exact chkV_ok hrec g h
    | i tg it c => exact chkI_ok hrec g h
    | g tg t is => exact chkG_ok hrec g h
    | gs tgs ts is => exact chkGs_ok hrec g h
    | c ifs c => exact chkC_ok hrec g h
    | s st c => exact chkS_ok hrec g h
    | ss sts cs => exact chkSs_ok hrec g h
end LI

set_option Elab.async false
set_option linter.all false
set_option autoImplicit false
set_option maxRecDepth 100000
set_option maxHeartbeats 4000000
namespace LI
open PySem PySem.Spec PyProof.Rows L2
/-- a def: its name, parameters, slots, text and code -/
structure FDf where
  name : Str
  ps : List Str
  N : List Str
  st : Stmt
  code : FnD
abbrev Kb := List (Str × List Str × List Nat)
def ckOf (tbl : List FDf) (gi : List (Str × Int)) (kb : Kb) (d : FDf) : Ck := ⟨d.N, defScope d.st, none, tbl.map (·.name), gi, kb⟩
def scopeB (N ps : List Str) (sc : Scope) : Bool := decide (sc.kind = .function) && decide (sc.isCoroutine = false) && decide (sc.isGenerator = false) && decide N.Nodup && decide (N.take ps.length = ps) &&
  (ps.all fun x => decide (sc.names.lookup x = some .local ∨ sc.names.lookup x = some .cell)) && (sc.names.all fun y => decide (y.2 ≠ .free))
theorem scope_ok {N ps : List Str} {sc : Scope} (h : scopeB N ps sc = true) : FnScope N ps sc := by
  unfold scopeB at h
  simp only [Bool.and_eq_true, decide_eq_true_eq, List.all_eq_true] at h
  obtain ⟨⟨⟨⟨⟨⟨h1, h2⟩, h3⟩, h4⟩, h5⟩, h6⟩, h7⟩ := h
  exact ⟨h1, h2, h3, h4, h5, h6, h7⟩
def pgOf (tbl : List FDf) : List (Str × FnD) := tbl.map fun d => (d.name, d.code)
def fnC (tbl : List FDf) (gi : List (Str × Int)) (kb : Kb) (d : FDf) : Bool := scopeB d.N d.ps (defScope d.st) && decide (d.code.np = d.ps.length) && decide (d.code.nv = d.N.length) && decide (d.ps.length ≤ d.N.length) && chk 400 (ckOf tbl gi kb d) (.ss (defBody d.st) d.code.body)
/-! ### the start of a def -/
theorem app_none {α : Type} {l : List (Option α)} {k i : Nat} {v : α} (h : (l ++ List.replicate k none)[i]? = some (some v)) : l[i]? = some (some v) := by
  by_cases z : i < l.length
  · rw [List.getElem?_append_left z] at h; exact h
  · rw [List.getElem?_append_right (by omega)] at h
    have := List.mem_of_getElem? h
    rw [List.mem_replicate] at this
    cases this.2
theorem app_get {α : Type} {l m : List α} {i : Nat} {v : α} (h : l[i]? = some v) : (l ++ m)[i]? = some v := by
  rw [List.getElem?_append_left (List.getElem?_eq_some_iff.mp h).1]; exact h
theorem owns_app {σ : Sg} {ρ : Rho} {k m : Nat} {a : Addr} : Owns (σ ++ List.replicate k none) (ρ ++ List.replicate m none) a ↔ Owns σ ρ a := by
  constructor
  · rintro ⟨i, t, d, h1, h2⟩; exact ⟨i, t, d, app_none h1, app_none h2⟩
  · rintro ⟨i, t, d, h1, h2⟩; exact ⟨i, t, d, app_get h1, app_get h2⟩
theorem SRel.app {K : Fg} {B : List V} {σ : Sg} {H Hf : Hp} {ρ : Rho} {k : Nat} (s : SRel K B σ H Hf ρ) : SRel K B (σ ++ List.replicate k none) H Hf (ρ ++ List.replicate k none) := by
  refine ⟨s.sub, by rw [List.length_append, List.length_append, s.len, List.length_replicate, List.length_replicate], fun i d e => ?_, fun i t d e => ?_, fun i j t u d e a h1 h2 h3 h4 => s.dis i j t u d e a (app_none h1) (app_none h2) (app_none h3) (app_none h4)⟩
  · obtain ⟨v, h1, h2⟩ := s.dat i d (app_none e)
    exact ⟨v, app_get h1, h2⟩
  · obtain ⟨a, o, h1, h2⟩ := s.own i t d (app_none e)
    exact ⟨a, o, app_get h1, h2⟩
theorem Step.app {σ σ' : Sg} {ρ ρ' : Rho} {H Hf H' Hf' : Hp} {k m : Nat} (t : Step (σ ++ List.replicate k none) (ρ ++ List.replicate m none) H Hf σ' ρ' H' Hf') : Step σ ρ H Hf σ' ρ' H' Hf' :=
  ⟨t.fz, fun a o h n => t.keep a o h fun z => n (owns_app.mp z), fun a h => (t.new a h).elim .inl fun z => z.elim (fun y => .inr (.inl y)) fun y => .inr (.inr (owns_app.mp y)), fun a h => (t.own a h).elim (fun z => .inl (owns_app.mp z)) .inr⟩
theorem RpV.app {K : Fg} {σ σ' : Sg} {ρ ρ' : Rho} {H H' Hf' : Hp} {k m : Nat} {v : V} {r : SV} (h : RpV K (σ ++ List.replicate k none) (ρ ++ List.replicate m none) H σ' ρ' H' Hf' v r) : RpV K σ ρ H σ' ρ' H' Hf' v r := by
  cases r with
  | dat d => exact h
  | own u d =>
    obtain ⟨a, o, h1, h2, h3, h4, h5, h6⟩ := h
    exact ⟨a, o, h1, h2, h3, h4, h5, h6.elim .inl fun z => .inr (owns_app.mp z)⟩
section
variable {P : Program} {w : World} {K : Fg} {mg : Str → Option Value} {base : Heap}
/-- what is known of the defs -/
structure Facts (K : Fg) (mg : Str → Option Value) (tbl : List FDf) (gi : List (Str × Int)) (kb : Kb) : Prop where
  df : ∀ d ∈ tbl, ∃ f fd, mg d.name = some (.ref f) ∧ FunD K d.name d.name (defArgs d.st) (defBody d.st) (defScope d.st) [] [] f fd ∧ Binds K fd d.ps []
  bi : ∀ x ∈ bnL, mg x = none
  gi : ∀ p ∈ gi, ∃ u, mg p.1 = some u ∧ RelV (.int p.2) u
  kb : ∀ q ∈ kb, ∃ d ∈ tbl, d.name = q.1 ∧ ∀ f fd, mg d.name = some (.ref f) → FunD K d.name d.name (defArgs d.st) (defBody d.st) (defScope d.st) [] [] f fd → KwB K fd d.ps q.2.1 q.2.2
theorem fns_ok {tbl : List FDf} {gi : List (Str × Int)} {kb : Kb} (F : Facts K mg tbl gi kb) (hC : ∀ d ∈ tbl, fnC tbl gi kb d = true) (hL : ∀ d ∈ tbl, (pgOf tbl).lookup d.name = some d.code) :
    ∀ (n : Nat) (d : FDf), d ∈ tbl → ∃ f fd, FOk P w K mg base n (phi (pgOf tbl) n) d.name f fd d.ps ∧ FunD K d.name d.name (defArgs d.st) (defBody d.st) (defScope d.st) [] [] f fd
  | 0, d, hd => by
    obtain ⟨f, fd, h1, h2, h3⟩ := F.df d hd
    refine ⟨f, fd, ⟨h1, h2.kp, h3, ⟨fun vs H Q E h => ?_, fun A outer s H args us vs Q E hr he hb hv hs => ?_⟩⟩, h2⟩
    · obtain ⟨as, Hf, r, outs, _, _, e, _⟩ := h
      simp [phi] at e
    · obtain ⟨as, Hf, r, outs, _, _, e, _⟩ := hs
      simp [phi] at e
  | n + 1, d, hd => by
    have ih := fns_ok F hC hL n
    obtain ⟨f, fd, h1, h2, h3⟩ := F.df d hd
    have c := hC d hd
    unfold fnC at c
    simp only [Bool.and_eq_true, decide_eq_true_eq] at c
    obtain ⟨⟨⟨⟨c1, c2⟩, c3⟩, c4⟩, c5⟩ := c
    have S := scope_ok c1
    have run : ∀ {as : List SV} {q : SV × Rho}, phi (pgOf tbl) (n + 1) d.name as = some q → runFn (phi (pgOf tbl) n) d.code as = some q := fun {as q} e => by
      simp only [phi, hL d hd, Option.bind_some] at e
      exact e
    refine ⟨f, fd, ⟨h1, h2.kp, h3, h2.ok S (fun vs H Q E h => ?_) (fun cdv A outer s H vs Q E hr h => ?_)⟩, h2⟩
    · obtain ⟨as, Hf, r, outs, _, hl, e, _⟩ := h
      have e := run e
      unfold runFn at e
      split at e
      · rename_i hz
        rw [hl, hz, c2]
      · cases e
    · obtain ⟨as, Hf, r, outs, sr, hl, e, k⟩ := h
      have e := run e
      unfold runFn at e
      split at e
      · rename_i hz
        obtain ⟨⟨fl, ρ'⟩, e1, e⟩ := bindE e
        have G : Good (cxOf CX0 P w K mg base d.N d.name (defScope d.st) f cdv A outer s H E).nox (phi (pgOf tbl) n) (ckOf tbl gi kb d) := by
          refine ⟨rfl, S.nd, rfl, S.kind, rfl, ?_, fun _ _ => rfl, fun x hx => ?_, F.bi, F.gi, fun q hq => ?_, rfl⟩
          · have := hr.un
            show (A.deeper _).units + 65 < cLine
            omega
          · obtain ⟨d', hd', rfl⟩ := List.mem_map.mp hx
            obtain ⟨f', fd', ok, _⟩ := ih d' hd'
            exact ⟨f', fd', d'.ps, n, ok, hr⟩
          · obtain ⟨d', hd', hn, hk⟩ := F.kb q hq
            obtain ⟨f', fd', ok, fu⟩ := ih d' hd'
            exact ⟨f', fd', d'.ps, n, by rw [← hn]; exact ok, hr, hk f' fd' ok.at_ fu⟩
        obtain ⟨ts, hps, sem⟩ := chk_ok 400 _ _ _ G c5
        refine ⟨ts, PSs.nox hps, ?_⟩
        have e0 : L2.start d.N vs = vs.map some ++ List.replicate (d.code.nv - d.code.np) none := by
          unfold L2.start
          rw [c3, hl, hz]
        rw [e0]
        refine sem vs _ H Hf _ ρ' fl _ sr.app e1 ?_
        cases fl with
        | nx =>
          cases e
          exact fun σ' H' Hf' s' t' => k _ H' Hf' σ' s' t'.app .non
        | ret v =>
          cases e
          exact fun v' σ' H' Hf' s' t' rv => k _ H' Hf' σ' s' t'.app rv.app
        | brk => cases e
        | cont => cases e
      · cases e
end
end LI

set_option Elab.async false
set_option linter.all false
set_option autoImplicit false
set_option maxRecDepth 100000
set_option maxHeartbeats 4000000
namespace LI
open PySem PySem.Spec PyProof.Rows L2
def defDOf (d : FDf) : He.DefD := ⟨(d.name, none), d.name, d.name, defArgs d.st, defBody d.st, defScope d.st, [], []⟩
def fnsOf (tbl : List FDf) : List He.DefD := tbl.map defDOf
def fasOf (tbl : List FDf) (gi : List (Str × Int)) : List He.Fa := (tbl.map fun d => He.Fa.glo d.name) ++ (bnL.map He.Fa.free ++ gi.map fun p => He.Fa.int p.1 p.2)
def BindN (d : FDf) : Prop := ∀ (kV doc pm : Value) (an : Option Addr) (cdv ct : Value) (us : List Value), us.length = d.ps.length → bindArgs (PySem.W.fnOf d.name d.name (defArgs d.st) (defBody d.st) (defScope d.st) .none kV doc pm an cdv ct) ⟨us, []⟩ = pure (d.ps.zip us)
def KwN (d : FDf) (kns : List Str) (pl : List Nat) : Prop := ∀ (kV doc pm : Value) (an : Option Addr) (cdv ct : Value) (ws : List Value), ws.length = kns.length → bindArgs (PySem.W.fnOf d.name d.name (defArgs d.st) (defBody d.st) (defScope d.st) .none kV doc pm an cdv ct) ⟨[], kns.zip ws⟩ = pure (d.ps.zip (pmU pl ws))
theorem kwB_of {K : Fg} {d : FDf} {f : Addr} {fd : FuncData} {kns : List Str} {pl : List Nat} (F : FunD K d.name d.name (defArgs d.st) (defBody d.st) (defScope d.st) [] [] f fd) (h : KwN d kns pl) : KwB K fd d.ps kns pl := by
  obtain ⟨oc, od, dV, kV, doc, pm, an, cdv, ct, osl, rfl, lk, hcd, hD, hK⟩ := F.ex
  rcases hD with ⟨_, rfl⟩ | ⟨e, _⟩
  · exact fun s ws _ hl => .of_eq (h kV doc pm an cdv ct ws hl)
  · exact absurd rfl e
theorem all_nil {α : Type} {P : α → Prop} : ∀ d ∈ ([] : List α), P d := fun _ h => nomatch h
theorem all_cons {α : Type} {P : α → Prop} {a : α} {l : List α} (h : P a) (t : ∀ d ∈ l, P d) : ∀ d ∈ a :: l, P d := fun d hd => (List.mem_cons.mp hd).elim (fun e => e ▸ h) (t d)
theorem facts_of {K : Fg} {h : Heap} {mg : Str → Option Value} {tbl : List FDf} {gi : List (Str × Int)} {kb : Kb} (X : K.In h) (G : h.Ns mainGlobals mg) (c : He.SaysD (fasOf tbl gi) (fnsOf tbl) K) (hb : ∀ d ∈ tbl, BindN d) (hk : ∀ q ∈ kb, ∃ d ∈ tbl, d.name = q.1 ∧ KwN d q.2.1 q.2.2) : Facts K mg tbl gi kb := by
  refine ⟨fun d hd => ?_, fun x hx => ?_, fun p hp => ?_, fun q hq => ?_⟩
  · obtain ⟨fd, F⟩ := c.defs (d := defDOf d) (List.mem_map_of_mem hd)
    have F : FunD K d.name d.name (defArgs d.st) (defBody d.st) (defScope d.st) [] [] (He.fAd K (d.name, none)) fd := F
    exact ⟨_, fd, He.glo_ok X G (c.facts (f := .glo d.name) (List.mem_append_left _ (List.mem_map.mpr ⟨d, hd, rfl⟩))), F, F.bindsN (hb d hd)⟩
  · exact He.free_ok X G (c.facts (f := .free x) (List.mem_append_right _ (List.mem_append_left _ (List.mem_map.mpr ⟨x, hx, rfl⟩))))
  · obtain ⟨t, e⟩ := He.int_ok X G (c.facts (f := .int p.1 p.2) (List.mem_append_right _ (List.mem_append_right _ (List.mem_map.mpr ⟨p, hp, rfl⟩))))
    exact ⟨_, e, t, rfl⟩
  · obtain ⟨d, hd, e, hn⟩ := hk q hq
    exact ⟨d, hd, e, fun f fd _ F => kwB_of F hn⟩
/-- the script, as data -/
def scrD (ns : List Int) : PyData := .dict [(.list (ns.map .int), .none)]
theorem law_sp {K : Fg} {φ : Fn} {H : Hp} {a : Addr} {ns : List Int} {outs : Rho} (hS : SqL K H a (ns.map V.int)) (hl : ns.length ≤ sizeLine) (e : φ "law" [.dat (scrD ns)] = some (.dat (.bool true), outs)) : spF K φ "law" [.ref a] H (fun v _ => v = .bl true) fun _ _ _ => False := by
  refine ⟨[.dat (scrD ns)], H, .dat (.bool true), outs, ⟨Same.refl _, rfl, fun i d h => ?_, fun i t d h => ?_, fun i j t u d e a h => ?_⟩, rfl, e, fun v H' Hf' σ' s t r => ?_⟩
  · cases i with
    | zero =>
      cases h
      exact ⟨_, rfl, .scr hS (by rw [List.length_map]; exact hl) (RpAll.intv ns)⟩
    | succ i => simp [tagA] at h
  · cases i with
    | zero => cases h
    | succ i => simp [tagA] at h
  · cases i with
    | zero => cases h
    | succ i => simp [tagA] at h
  · have r : Rp K Hf' v (.bool true) := r
    cases r; rfl
theorem facts_law {P : Program} {w : World} {K : Fg} {h : Heap} {mg : Str → Option Value} {f : Addr} {tbl : List FDf} {gi : List (Str × Int)} {kb : Kb} {d : FDf} {x : Str} {n : Nat} (X : K.In h) (G : h.Ns mainGlobals mg) (hfa : mg ("law" : Str) = some (.ref f)) (c : He.SaysD (fasOf tbl gi) (fnsOf tbl) K)
    (hb : ∀ d ∈ tbl, BindN d) (hk : ∀ q ∈ kb, ∃ d ∈ tbl, d.name = q.1 ∧ KwN d q.2.1 q.2.2) (hC : ∀ d ∈ tbl, fnC tbl gi kb d = true) (hL : ∀ d ∈ tbl, (pgOf tbl).lookup d.name = some d.code) (hd : d ∈ tbl) (hdn : d.name = "law") (hdp : d.ps = [x]) :
    ∃ fd : FuncData, (∀ (s : Shared) (v : Value), BindsTo s fd ⟨[v], []⟩ [(x, v)]) ∧ ∀ base : Heap, K.In base → base.Ns mainGlobals mg → FnOk P w K mg base CX0 n f fd [x] (spF K (phi (pgOf tbl) n) "law") := by
  have F := facts_of X G c hb hk
  obtain ⟨f0, fd, h1, h2, h3⟩ := F.df d hd
  rw [hdn, hfa] at h1
  cases h1
  have b := FunD.bindsA (ps := d.ps) h2 (hb d hd)
  refine ⟨fd, fun s v => ?_, fun base _ _ => ?_⟩
  · have := b s [v] (by rw [hdp]; rfl)
    rw [hdp] at this
    exact this
  · obtain ⟨f', fd', ok, F'⟩ := fns_ok (P := P) (w := w) (base := base) F hC hL n d hd
    have e1 := ok.at_
    rw [hdn, hfa] at e1
    cases e1
    have e2 : fd' = fd := by
      obtain ⟨oc, od, dV, kV, doc, pm, an, cdv, ct, osl, e3, lk, _⟩ := F'.ex
      obtain ⟨oc', od', dV', kV', doc', pm', an', cdv', ct', osl', e3', lk', _⟩ := h2.ex
      rw [lk] at lk'
      cases lk'
      rfl
    subst e2
    have := ok.ok
    rw [hdp, hdn] at this
    exact this
end LI

set_option Elab.async false
set_option linter.all false
set_option autoImplicit false
set_option maxRecDepth 100000
set_option maxHeartbeats 4000000
namespace K10
open PySem LI
def top (i : Nat) : Stmt := PySem.Challenge.pw_latesights_k10_settling_by_all_boxes.main.body.getD i (.Pass ⟨0, 0, 0, 0⟩)
def c_tupled : FnD := ⟨1, 2, [.ret (.ite (.prim (.isi [.list, .tuple]) [.var 0]) (.prim .tuple [.lc (.call "tupled" [] [] [.var 1]) (.name 1) (.seq (.var 0)) none [1]]) (.var 0))]⟩
def f_tupled : FDf := ⟨"tupled", ["value"], ["value", "own"], top 1, c_tupled⟩
def c_set_of : FnD := ⟨1, 1, [.ret (.prim .tuple [.prim .sortedset [.var 0]])]⟩
def f_set_of : FDf := ⟨"set_of", ["row"], ["row"], top 2, c_set_of⟩
def c_sizes_of : FnD := ⟨2, 3, [.ret (.lc (.prim .len [.prim .idx [.prim .idx [.var 0, .var 2], .cst (.int (0))]]) (.name 2) (.seq (.var 1)) none [2])]⟩
def f_sizes_of : FDf := ⟨"sizes_of", ["house", "places"], ["house", "places", "own"], top 8, c_sizes_of⟩
def c_table_at : FnD := ⟨3, 6, [.asg 3 (.cst (.int 0)), .forS (.tup [.name 4, .name 5]) (.zip (.var 2) (.call "sizes_of" [] [] [.var 0, .prim .idx [.prim .idx [.var 0, .var 1], .cst (.int (1))]])) [.asg 3 (.prim .add [.prim .mul [.var 3, .var 5], .var 4])], .ret (.prim .idx [.prim .idx [.prim .idx [.var 0, .var 1], .cst (.int (2))], .var 3])]⟩
def f_table_at : FDf := ⟨"table_at", ["house", "place", "row"], ["house", "place", "row", "number", "own", "size"], top 9, c_table_at⟩
def c_rows_among : FnD := ⟨1, 5, [.asg 1 (.lst [.tup []]), .forS (.name 2) (.seq (.var 0)) [.asg 1 (.lc2 (.tup [.star (.var 3), .var 4]) (.name 3) (.seq (.var 1)) none (.name 4) (.seq (.var 2)) none [3, 4] [4])], .ret (.var 1)]⟩
def f_rows_among : FDf := ⟨"rows_among", ["sets"], ["sets", "found", "some", "own", "number"], top 11, c_rows_among⟩
def c_point_of : FnD := ⟨2, 3, [.ret (.ite (.prim .all [.lc (.prim .eq [.prim .len [.var 2], .cst (.int 1)]) (.name 2) (.seq (.var 1)) none [2]]) (.prim .tuple [.lc (.prim .idx [.var 2, .cst (.int 0)]) (.name 2) (.seq (.var 1)) none [2]]) (.cst .none))]⟩
def f_point_of : FDf := ⟨"point_of", ["house", "box"], ["house", "box", "own"], top 12, c_point_of⟩
def c_wide_places : FnD := ⟨2, 4, [.ret (.prim .tuple [.lc (.var 2) (.tup [.name 2, .name 3]) (.enum (.var 1)) (some (.prim .gt [.prim .len [.var 3], .cst (.int 1)])) [2, 3]])]⟩
def f_wide_places : FDf := ⟨"wide_places", ["house", "box"], ["house", "box", "place", "own"], top 13, c_wide_places⟩
def c_rows_inside : FnD := ⟨3, 4, [.ret (.call "rows_among" [] [] [.lc (.prim .idx [.var 1, .var 3]) (.name 3) (.seq (.prim .idx [.prim .idx [.var 0, .var 2], .cst (.int (1))])) none [3]])]⟩
def f_rows_inside : FDf := ⟨"rows_inside", ["house", "box", "place"], ["house", "box", "place", "near"], top 14, c_rows_inside⟩
def c_told_part : FnD := ⟨3, 4, [.ret (.call "set_of" [] [] [.lc (.call "table_at" [] [] [.var 0, .var 2, .var 3]) (.name 3) (.seq (.call "rows_inside" [] [] [.var 0, .var 1, .var 2])) none [3]])]⟩
def f_told_part : FDf := ⟨"told_part", ["house", "box", "place"], ["house", "box", "place", "row"], top 15, c_told_part⟩
def c_told_box : FnD := ⟨2, 3, [.ret (.prim .tuple [.lc (.call "told_part" [] [] [.var 0, .var 1, .var 2]) (.name 2) (.rng1 (.prim .len [.var 0])) none [2]])]⟩
def f_told_box : FDf := ⟨"told_box", ["house", "box"], ["house", "box", "place"], top 16, c_told_box⟩
def c_laps_grown : FnD := ⟨3, 9, [.asg 3 (.lst [.call "tupled" [] [] [.var 1]]), .whileS (.orE (.prim .lt [.prim .len [.var 3], .cst (.int (2))]) (.prim .ne [.prim .idx [.var 3, .prim .neg [.cst (.int 1)]], .prim .idx [.var 3, .prim .neg [.cst (.int (2))]]])) [.asg 4 (.prim .idx [.var 3, .prim .neg [.cst (.int 1)]]), .asg 5 (.lc (.ite (.prim .isin [.var 6, .var 2]) (.tup []) (.call "told_part" [] [] [.var 0, .var 4, .var 6])) (.name 6) (.rng1 (.prim .len [.var 0])) none [6]), .app 3 (.prim .tuple [.lc (.call "set_of" [] [] [.lst [.star (.var 7), .star (.var 8)]]) (.tup [.name 7, .name 8]) (.zip (.var 4) (.var 5)) none [7, 8]])], .ret (.prim (.sl false true) [.var 3, .prim .neg [.cst (.int 1)]])]⟩
def f_laps_grown : FDf := ⟨"laps_grown", ["house", "box", "some"], ["house", "box", "some", "found", "here", "told", "place", "near", "far"], top 17, c_laps_grown⟩
def c_grown : FnD := ⟨2, 2, [.ret (.prim .idx [.call "laps_grown" [] [] [.var 0, .var 1, .tup []], .prim .neg [.cst (.int 1)]])]⟩
def f_grown : FDf := ⟨"grown", ["house", "box"], ["house", "box"], top 18, c_grown⟩
def c_rounds : FnD := ⟨2, 3, [.asg 2 (.lst [.call "grown" [] [] [.var 0, .var 1]]), .whileS (.orE (.prim .lt [.prim .len [.var 2], .cst (.int (2))]) (.prim .ne [.prim .idx [.var 2, .prim .neg [.cst (.int 1)]], .prim .idx [.var 2, .prim .neg [.cst (.int (2))]]])) [.app 2 (.call "told_box" [] [] [.var 0, .prim .idx [.var 2, .prim .neg [.cst (.int 1)]]])], .ret (.prim (.sl false true) [.var 2, .prim .neg [.cst (.int 1)]])]⟩
def f_rounds : FDf := ⟨"rounds", ["house", "box"], ["house", "box", "found"], top 19, c_rounds⟩
def c_limit : FnD := ⟨2, 2, [.ret (.prim .idx [.call "rounds" [] [] [.var 0, .var 1], .prim .neg [.cst (.int 1)]])]⟩
def f_limit : FDf := ⟨"limit", ["house", "box"], ["house", "box"], top 20, c_limit⟩
def c_settles : FnD := ⟨2, 2, [.ret (.prim .notnone [.call "end_from" [] [] [.var 0, .var 1]])]⟩
def f_settles : FDf := ⟨"settles", ["house", "box"], ["house", "box"], top 22, c_settles⟩
def c_end_from : FnD := ⟨2, 2, [.ret (.call "point_of" [] [] [.var 0, .call "limit" [] [] [.var 0, .var 1]])]⟩
def f_end_from : FDf := ⟨"end_from", ["house", "box"], ["house", "box"], top 23, c_end_from⟩
def c_swinging : FnD := ⟨2, 2, [.ret (.call "wide_places" [] [] [.var 0, .call "limit" [] [] [.var 0, .var 1]])]⟩
def f_swinging : FDf := ⟨"swinging", ["house", "box"], ["house", "box"], top 24, c_swinging⟩
def c__law_box : FnD := ⟨2, 3, [.asg 2 (.ite (.prim .lt [.var 1, .prim .len [.var 0]]) (.prim .idx [.var 0, .var 1]) (.cst (.int 0))), .ret (.lst [.prim .mul [.prim .abs [.var 2], .prim .int [.prim .ge [.prim .abs [.var 2], .prim .pow [.cst (.int 10), .cst (.int 18)]]]], .prim .add [.prim .add [.prim .mod [.prim .int [.var 2], .cst (.int 2305843009213693951)], .prim .mul [.cst (.int 39373), .var 1]], .cst (.int 1938010)], .cst (.int 0)])]⟩
def f__law_box : FDf := ⟨"_law_box", ["_law_script", "_law_k"], ["_law_script", "_law_k", "_law_cell"], top 26, c__law_box⟩
def c__law_take : FnD := ⟨2, 6, [.ite (.prim .gt [.prim .idx [.var 0, .cst (.int 0)], .cst (.int 0)]) [.asg 5 (.prim .mod [.prim .int [.prim .idx [.var 0, .cst (.int 0)]], .var 1]), .seti 0 (.cst (.int 0)) (.prim .fdiv [.prim .idx [.var 0, .cst (.int 0)], .var 1]), .ret (.var 5)] [], .seti 0 (.cst (.int 2)) (.prim .add [.prim .idx [.var 0, .cst (.int 2)], .cst (.int 1)]), .asg 2 (.prim .mod [.prim .int [.prim .mul [.prim .add [.prim .idx [.var 0, .cst (.int 1)], .prim .mul [.cst (.int 48271), .prim .idx [.var 0, .cst (.int 2)]]], .prim .add [.cst (.int 39373), .prim .idx [.var 0, .cst (.int 2)]]]], .cst (.int 2147483647)]), .asg 3 (.prim .add [.prim .mod [.prim .int [.var 2], .cst (.int 40009)], .cst (.int 7)]), .asg 4 (.prim .mod [.prim .int [.prim .mul [.prim .add [.prim .add [.var 2, .prim .idx [.var 0, .cst (.int 2)]], .prim .fdiv [.prim .idx [.var 0, .cst (.int 1)], .cst (.int 1000003)]], .var 3]], .cst (.int 2147483629)]), .ret (.prim .mod [.prim .int [.prim .fdiv [.prim .mod [.prim .int [.prim .add [.prim .mul [.var 4, .cst (.int 48271)], .var 2]], .cst (.int 2147483587)], .cst (.int 64)]], .var 1])]⟩
def f__law_take : FDf := ⟨"_law_take", ["_law_tin", "_law_below_so"], ["_law_tin", "_law_below_so", "_law_once_so", "_law_wide_so", "_law_twice_so", "_law_drawn"], top 27, c__law_take⟩
def c__law_cells : FnD := ⟨2, 6, [.asg 2 (.orE (.prim .list [.prim (.sl false true) [.var 0, .var 1]]) (.lst [.cst (.int 0)])), .forS (.tup [.name 3, .name 4]) (.enum (.sl2 [.var 0] (.var 1) (.cst (.int 63)))) [.asg 5 (.prim .mod [.prim .int [.var 3], .var 1]), .seti 2 (.var 5) (.prim .add [.prim .idx [.var 2, .var 5], .prim .mul [.var 4, .prim .add [.var 3, .cst (.int 2)]]])], .ret (.var 2)]⟩
def f__law_cells : FDf := ⟨"_law_cells", ["_law_script", "_law_most_so"], ["_law_script", "_law_most_so", "_law_cells_so", "_law_k", "_law_cell", "_law_at_so"], top 28, c__law_cells⟩
def c__law_of : FnD := ⟨2, 2, [.ret (.prim .idx [.var 1, .call "_law_take" [] [true, false] [.var 0, .prim .len [.var 1]]])]⟩
def f__law_of : FDf := ⟨"_law_of", ["_law_tin", "_law_goods_so"], ["_law_tin", "_law_goods_so"], top 29, c__law_of⟩
def c__law_pick : FnD := ⟨3, 6, [.pasg [3, 4] [.prim .list [.var 1], .lst []], .forS (.name 5) (.rng1 (.prim .min2 [.prim .int [.var 2], .prim .len [.var 3]])) [.app 4 (.popAt 3 (.call "_law_take" [] [true, false] [.var 0, .prim .len [.var 3]]))], .ret (.var 4)]⟩
def f__law_pick : FDf := ⟨"_law_pick", ["_law_tin", "_law_goods_so", "_law_count_so"], ["_law_tin", "_law_goods_so", "_law_count_so", "_law_pool_so", "_law_found", "_law_lap"], top 30, c__law_pick⟩
def c__law_lists : FnD := ⟨1, 2, [.ret (.ite (.prim (.isi [.list, .tuple]) [.var 0]) (.lc (.call "_law_lists" [] [] [.var 1]) (.name 1) (.seq (.var 0)) none [1]) (.var 0))]⟩
def f__law_lists : FDf := ⟨"_law_lists", ["_law_matter"], ["_law_matter", "_law_bit"], top 31, c__law_lists⟩
def c__law_same : FnD := ⟨2, 4, [.ite (.prim (.isi [.list, .tuple]) [.var 1]) [.ite (.orE (.prim .ne [.prim (.isi [.list]) [.var 0], .prim (.isi [.list]) [.var 1]]) (.prim .ne [.prim (.isi [.tuple]) [.var 0], .prim (.isi [.tuple]) [.var 1]])) [.ret (.cst (.bool false))] [], .ret (.andE (.prim .eq [.prim .len [.var 0], .prim .len [.var 1]]) (.prim .all [.lc (.call "_law_same" [] [] [.var 2, .var 3]) (.tup [.name 2, .name 3]) (.zip (.var 0) (.var 1)) none [2, 3]]))] [], .ite (.orE (.prim .isnone [.var 1]) (.prim (.isi [.bool, .str]) [.var 1])) [.ret (.andE (.prim .eq [.var 0, .var 1]) (.andE (.prim .eq [.prim (.isi [.bool]) [.var 0], .prim (.isi [.bool]) [.var 1]]) (.prim .eq [.prim .isnone [.var 0], .prim .isnone [.var 1]])))] [], .ret (.andE (.prim (.isi [.int]) [.var 0]) (.andE (.notE (.prim (.isi [.bool]) [.var 0])) (.prim .eq [.var 0, .var 1])))]⟩
def f__law_same : FDf := ⟨"_law_same", ["_law_got", "_law_due"], ["_law_got", "_law_due", "_law_mine", "_law_its"], top 32, c__law_same⟩
def c__law_rows : FnD := ⟨1, 6, [.asg 1 (.lst [.tup []]), .forS (.name 2) (.seq (.var 0)) [.asg 3 (.lst []), .forS (.name 4) (.seq (.var 1)) [.asg 3 (.prim .add [.var 3, .lc (.prim .add [.var 4, .tup [.var 5]]) (.name 5) (.rng1 (.var 2)) none [5]])], .asg 1 (.var 3)], .ret (.var 1)]⟩
def f__law_rows : FDf := ⟨"_law_rows", ["_law_sizes_so"], ["_law_sizes_so", "_law_found", "_law_size_so", "_law_longer", "_law_own", "_law_k"], top 33, c__law_rows⟩
def c__law_sizes : FnD := ⟨2, 3, [.ret (.lc (.prim .len [.prim .idx [.prim .idx [.var 0, .var 2], .cst (.int 0)]]) (.name 2) (.seq (.var 1)) none [2])]⟩
def f__law_sizes : FDf := ⟨"_law_sizes", ["_law_hall_here", "_law_spots_so"], ["_law_hall_here", "_law_spots_so", "_law_j"], top 34, c__law_sizes⟩
def c__law_hall : FnD := ⟨3, 11, [.pasg [3, 4] [.lc (.call "_law_of" [] [true, false] [.var 0, .prim (.sl false true) [.lst [.cst (.int 1), .cst (.int 2), .cst (.int 2), .cst (.int 2), .cst (.int 3), .cst (.int 3)], .prim .mul [.var 2, .cst (.int 2)]]]) (.name 5) (.rng1 (.var 1)) none [5], .lst []], .forS (.name 5) (.rng1 (.var 1)) [.asg 6 (.prim .tuple [.prim .sorted [.call "_law_pick" [] [true, false, false] [.var 0, .prim .lrange1 [.var 1], .call "_law_of" [] [true, false] [.var 0, .lst [.cst (.int 0), .cst (.int 1), .cst (.int 1), .cst (.int 2), .cst (.int 2), .cst (.int 2)]]]]]), .asg 7 (.cst (.int 1)), .forS (.name 8) (.seq (.var 6)) [.asg 7 (.prim .mul [.var 7, .prim .idx [.var 3, .var 8]])], .asg 9 (.prim .tuple [.lc (.call "_law_take" [] [true, false] [.var 0, .prim .idx [.var 3, .var 5]]) (.name 10) (.rng1 (.var 7)) none [10]]), .app 4 (.tup [.prim (.sl false true) [.tup [.cst (.str "no"), .cst (.str "yes"), .cst (.str "zeal")], .prim .idx [.var 3, .var 5]], .var 6, .var 9])], .ret (.prim .tuple [.var 4])]⟩
def f__law_hall : FDf := ⟨"_law_hall", ["_law_tin", "_law_many_so", "_law_most_so"], ["_law_tin", "_law_many_so", "_law_most_so", "_law_sizes_so", "_law_found", "_law_j", "_law_eyes_so", "_law_size_so", "_law_nigh_so", "_law_told_so", "_law_lap"], top 35, c__law_hall⟩
def c__law_spot : FnD := ⟨2, 3, [.ret (.prim .tuple [.lc (.call "_law_take" [] [true, false] [.var 0, .prim .len [.prim .idx [.var 2, .cst (.int 0)]]]) (.name 2) (.seq (.var 1)) none [2]])]⟩
def f__law_spot : FDf := ⟨"_law_spot", ["_law_tin", "_law_hall_here"], ["_law_tin", "_law_hall_here", "_law_own"], top 36, c__law_spot⟩
def c__law_start : FnD := ⟨2, 8, [.pasg [2, 3] [.call "_law_spot" [] [true, false] [.var 0, .var 1], .lst []], .forS (.tup [.name 4, .name 5]) (.enum (.var 2)) [.asg 6 (.lc (.var 7) (.name 7) (.rng1 (.prim .len [.prim .idx [.prim .idx [.var 1, .var 4], .cst (.int 0)]])) (some (.orE (.prim .eq [.var 7, .var 5]) (.prim .eq [.call "_law_take" [] [true, false] [.var 0, .cst (.int 4)], .cst (.int 0)]))) [7]), .app 3 (.prim .tuple [.var 6])], .ret (.tup [.var 2, .prim .tuple [.var 3]])]⟩
def f__law_start : FDf := ⟨"_law_start", ["_law_tin", "_law_hall_here"], ["_law_tin", "_law_hall_here", "_law_here", "_law_old_so", "_law_j", "_law_own", "_law_more_so", "_law_k"], top 37, c__law_start⟩
def c__law_lies : FnD := ⟨2, 5, [.ret (.prim .eq [.lc (.var 2) (.tup [.name 2, .name 3]) (.enum (.var 0)) (some (.prim .ne [.lc (.var 4) (.name 4) (.seq (.var 3)) (some (.prim .notin [.var 4, .prim .idx [.var 1, .var 2]])) [4], .lst []])) [2, 3], .lst []])]⟩
def f__law_lies : FDf := ⟨"_law_lies", ["_law_one_so", "_law_two_so"], ["_law_one_so", "_law_two_so", "_law_j", "_law_share_so", "_law_own"], top 38, c__law_lies⟩
def c__law_spots : FnD := ⟨1, 6, [.asg 1 (.lst [.tup []]), .forS (.name 2) (.seq (.var 0)) [.asg 3 (.lst []), .forS (.name 4) (.seq (.var 1)) [.asg 3 (.prim .add [.var 3, .lc (.prim .add [.var 4, .tup [.var 5]]) (.name 5) (.seq (.var 2)) none [5]])], .asg 1 (.var 3)], .ret (.var 1)]⟩
def f__law_spots : FDf := ⟨"_law_spots", ["_law_bag_here"], ["_law_bag_here", "_law_found", "_law_share_so", "_law_longer", "_law_own", "_law_k"], top 39, c__law_spots⟩
def c__law_both : FnD := ⟨2, 4, [.ret (.prim .tuple [.lc (.prim .tuple [.prim .sortedset [.prim .add [.var 2, .var 3]]]) (.tup [.name 2, .name 3]) (.zip (.var 0) (.var 1)) none [2, 3]])]⟩
def f__law_both : FDf := ⟨"_law_both", ["_law_one_so", "_law_two_so"], ["_law_one_so", "_law_two_so", "_law_own", "_law_its"], top 40, c__law_both⟩
def c__law_is_point : FnD := ⟨1, 2, [.ret (.prim .eq [.lc (.var 1) (.name 1) (.seq (.var 0)) (some (.prim .gt [.prim .len [.var 1], .cst (.int 1)])) [1], .lst []])]⟩
def f__law_is_point : FDf := ⟨"_law_is_point", ["_law_bag_here"], ["_law_bag_here", "_law_own"], top 41, c__law_is_point⟩
def c__law_bags : FnD := ⟨1, 8, [.asg 1 (.lst [.tup []]), .forS (.name 2) (.seq (.var 0)) [.asg 3 (.lst [.tup []]), .forS (.name 4) (.seq (.var 2)) [.asg 3 (.prim .add [.var 3, .lc (.prim .add [.var 6, .tup [.var 4]]) (.name 6) (.seq (.var 3)) none [6]])], .asg 5 (.lst []), .forS (.name 6) (.seq (.var 1)) [.asg 5 (.prim .add [.var 5, .lc (.prim .add [.var 6, .tup [.var 7]]) (.name 7) (.seq (.var 3)) (some (.prim .ne [.var 7, .tup []])) [7]])], .asg 1 (.var 5)], .ret (.var 1)]⟩
def f__law_bags : FDf := ⟨"_law_bags", ["_law_bag_here"], ["_law_bag_here", "_law_found", "_law_share_so", "_law_lots_so", "_law_k", "_law_longer", "_law_own", "_law_lot_so"], top 42, c__law_bags⟩
def c__law_lamps : FnD := ⟨0, 2, [.pasg [0, 1] [.tup [.tup [.cst (.str "off"), .cst (.str "on")], .tup [], .tup [.cst (.int 1)]], .tup [.tup [.cst (.str "off"), .cst (.str "on")], .tup [.cst (.int 0)], .tup [.cst (.int 0), .cst (.int 1)]]], .ret (.tup [.var 0, .var 1, .tup [.tup [.cst (.str "free"), .cst (.str "ann"), .cst (.str "bob")], .tup [.cst (.int 1), .cst (.int 2)], .tup [.cst (.int 0), .cst (.int 0), .cst (.int 0), .cst (.int 1), .cst (.int 1), .cst (.int 2)]]])]⟩
def f__law_lamps : FDf := ⟨"_law_lamps", [], ["_law_wish_so", "_law_lamp_so"], top 43, c__law_lamps⟩
def c__law_swings : FnD := ⟨0, 0, [.ret (.tup [.tup [.tup [.cst (.str "no"), .cst (.str "yes")], .tup [.cst (.int 1)], .tup [.cst (.int 1), .cst (.int 0)]], .tup [.tup [.cst (.str "no"), .cst (.str "yes")], .tup [.cst (.int 0)], .tup [.cst (.int 1), .cst (.int 0)]]])]⟩
def f__law_swings : FDf := ⟨"_law_swings", [], [], top 44, c__law_swings⟩
def c__law_maps : FnD := ⟨1, 6, [.asg 1 (.lst []), .forS (.name 2) (.seq (.var 0)) [.asg 3 (.call "_law_rows" [] [] [.call "_law_sizes" [] [] [.var 0, .prim .idx [.var 2, .cst (.int 1)]]]), .app 1 (.prim .dict [.lc (.tup [.var 5, .prim .idx [.prim .idx [.var 2, .cst (.int 2)], .var 4]]) (.tup [.name 4, .name 5]) (.enum (.var 3)) none [4, 5]])], .ret (.var 1)]⟩
def f__law_maps : FDf := ⟨"_law_maps", ["_law_hall_here"], ["_law_hall_here", "_law_found", "_law_own", "_law_rows_so", "_law_k", "_law_row_so"], top 45, c__law_maps⟩
def c__law_say : FnD := ⟨3, 9, [.asg 3 (.lst []), .forS (.tup [.name 4, .name 5]) (.enum (.var 0)) [.asg 6 (.call "_law_spots" [] [] [.lc (.prim .idx [.var 2, .var 7]) (.name 7) (.seq (.prim .idx [.var 5, .cst (.int 1)])) none [7]]), .app 3 (.prim .tuple [.prim .sortedset [.lc (.prim .idx [.prim .idx [.var 1, .var 4], .var 8]) (.name 8) (.seq (.var 6)) none [8]]])], .ret (.prim .tuple [.var 3])]⟩
def f__law_say : FDf := ⟨"_law_say", ["_law_hall_here", "_law_maps_here", "_law_bag_here"], ["_law_hall_here", "_law_maps_here", "_law_bag_here", "_law_found", "_law_j", "_law_own", "_law_rows_so", "_law_near", "_law_row_so"], top 46, c__law_say⟩
def c__law_grow : FnD := ⟨3, 6, [.pasg [3, 4] [.var 2, .cst (.bool true)], .whileS (.var 4) [.asg 5 (.call "_law_both" [] [] [.var 3, .call "_law_say" [] [] [.var 0, .var 1, .var 3]]), .pasg [3, 4] [.var 5, .prim .ne [.var 5, .var 3]]], .ret (.var 3)]⟩
def f__law_grow : FDf := ⟨"_law_grow", ["_law_hall_here", "_law_maps_here", "_law_bag_here"], ["_law_hall_here", "_law_maps_here", "_law_bag_here", "_law_found", "_law_again", "_law_later"], top 47, c__law_grow⟩
def c__law_chain : FnD := ⟨0, 1, [.asg 0 (.tup [.tup [.cst (.str "no"), .cst (.str "yes")], .tup [], .tup [.cst (.int 1)]]), .ret (.tup [.var 0, .tup [.tup [.cst (.str "no"), .cst (.str "yes")], .tup [.cst (.int 0)], .tup [.cst (.int 0), .cst (.int 1)]], .tup [.tup [.cst (.str "no"), .cst (.str "yes")], .tup [.cst (.int 1)], .tup [.cst (.int 0), .cst (.int 1)]]])]⟩
def f__law_chain : FDf := ⟨"_law_chain", [], ["_law_first"], top 48, c__law_chain⟩
def c__law_swap : FnD := ⟨0, 0, [.ret (.tup [.tup [.tup [.cst (.str "no"), .cst (.str "yes")], .tup [.cst (.int 1)], .tup [.cst (.int 0), .cst (.int 1)]], .tup [.tup [.cst (.str "no"), .cst (.str "yes")], .tup [.cst (.int 0)], .tup [.cst (.int 0), .cst (.int 1)]]])]⟩
def f__law_swap : FDf := ⟨"_law_swap", [], [], top 49, c__law_swap⟩
def c__law_bag : FnD := ⟨2, 2, [.ret (.prim .idx [.call "_law_start" [] [true, false] [.var 0, .var 1], .cst (.int 1)])]⟩
def f__law_bag : FDf := ⟨"_law_bag", ["_law_tin", "_law_hall_here"], ["_law_tin", "_law_hall_here"], top 50, c__law_bag⟩
def c__law_case_right : FnD := ⟨2, 13, [.pasg [2, 3] [.call "_law_maps" [] [] [.var 0], .call "_law_lists" [] [] [.lst [.var 0, .var 1]]], .asg 4 (.call "_law_bags" [] [] [.call "_law_grow" [] [] [.var 0, .var 2, .var 1]]), .asg 5 (.lc (.var 12) (.name 12) (.seq (.var 4)) (some (.call "_law_lies" [] [] [.var 12, .call "_law_say" [] [] [.var 0, .var 2, .var 12]])) [12]), .pasg [6, 7] [.lst [], .lc (.var 12) (.name 12) (.seq (.var 5)) (some (.call "_law_is_point" [] [] [.var 12])) [12]], .forS (.name 8) (.rng1 (.prim .len [.var 0])) [.ite (.prim .ne [.lc (.var 12) (.name 12) (.seq (.var 5)) (some (.prim .gt [.prim .len [.prim .idx [.var 12, .var 8]], .cst (.int 1)])) [12], .lst []]) [.app 6 (.var 8)] []], .asg 9 (.ite (.prim .eq [.var 6, .lst []]) (.prim .tuple [.lc (.prim .idx [.var 12, .cst (.int 0)]) (.name 12) (.seq (.prim .idx [.var 7, .cst (.int 0)])) none [12]]) (.cst .none)), .asg 10 (.lst [.call "settles" [] [] [.var 0, .var 1], .call "end_from" [] [] [.var 0, .var 1], .call "swinging" [] [] [.var 0, .var 1]]), .asg 10 (.prim .add [.var 10, .lst [.call "settles" [] [] [.prim .idx [.var 3, .cst (.int 0)], .prim .idx [.var 3, .cst (.int 1)]], .call "end_from" [] [] [.prim .idx [.var 3, .cst (.int 0)], .prim .idx [.var 3, .cst (.int 1)]], .call "swinging" [] [] [.prim .idx [.var 3, .cst (.int 0)], .prim .idx [.var 3, .cst (.int 1)]], .var 3]]), .asg 11 (.prim .add [.prim .mul [.lst [.prim .eq [.var 6, .lst []], .var 9, .prim .tuple [.var 6]], .cst (.int 2)], .lst [.call "_law_lists" [] [] [.lst [.var 0, .var 1]]]]), .ret (.andE (.call "_law_same" [] [] [.var 10, .var 11]) (.orE (.prim .ne [.var 6, .lst []]) (.prim .eq [.prim .len [.var 7], .cst (.int 1)])))]⟩
def f__law_case_right : FDf := ⟨"_law_case_right", ["_law_hall_here", "_law_bag_here"], ["_law_hall_here", "_law_bag_here", "_law_maps_here", "_law_soft", "_law_bags_so", "_law_lasting_so", "_law_swing_so", "_law_points_so", "_law_j", "_law_end_so", "_law_got", "_law_due", "_law_own"], top 51, c__law_case_right⟩
def c__law_by_hand_right : FnD := ⟨0, 12, [.pasg [0, 1, 2, 3] [.call "_law_chain" [] [] [], .call "_law_swap" [] [] [], .call "_law_lamps" [] [] [], .call "_law_swings" [] [] []], .pasg [4, 5] [.tup [.tup [.tup [.cst (.str "no"), .cst (.str "yes")], .tup [.cst (.int 0)], .tup [.cst (.int 0), .cst (.int 1)]]], .tup [.tup [.tup [.cst (.str "no")], .tup [.cst (.int 0)], .tup [.cst (.int 0)]], .tup [.tup [.cst (.str "a"), .cst (.str "b"), .cst (.str "c")], .tup [.cst (.int 0)], .tup [.cst (.int 2)]]]], .asg 6 (.lst [.tup [.var 0, .tup [.tup [.cst (.int 0)], .tup [.cst (.int 0)], .tup [.cst (.int 0)]]], .tup [.var 0, .tup [.tup [.cst (.int 0), .cst (.int 1)], .tup [.cst (.int 0), .cst (.int 1)], .tup [.cst (.int 0), .cst (.int 1)]]], .tup [.var 1, .tup [.tup [.cst (.int 0)], .tup [.cst (.int 0)]]]]), .asg 6 (.prim .add [.var 6, .lst [.tup [.var 1, .tup [.tup [.cst (.int 0)], .tup [.cst (.int 1)]]], .tup [.var 1, .tup [.tup [.cst (.int 0), .cst (.int 1)], .tup [.cst (.int 0)]]], .tup [.var 1, .tup [.tup [.cst (.int 1)], .tup [.cst (.int 1)]]]]]), .asg 6 (.prim .add [.var 6, .lst [.tup [.var 3, .tup [.tup [.cst (.int 0)], .tup [.cst (.int 0)]]], .tup [.var 3, .tup [.tup [.cst (.int 0)], .tup [.cst (.int 1)]]]]]), .asg 6 (.prim .add [.var 6, .lst [.tup [.var 4, .tup [.tup [.cst (.int 0), .cst (.int 1)]]], .tup [.var 4, .tup [.tup [.cst (.int 1)]]]]]), .asg 6 (.prim .add [.var 6, .lst [.tup [.var 2, .tup [.tup [.cst (.int 0)], .tup [.cst (.int 0)], .tup [.cst (.int 0)]]], .tup [.var 2, .tup [.tup [.cst (.int 0)], .tup [.cst (.int 0)], .tup [.cst (.int 0), .cst (.int 2)]]], .tup [.tup [], .tup []]]]), .asg 6 (.prim .add [.var 6, .lst [.tup [.var 5, .tup [.tup [.cst (.int 0)], .tup [.cst (.int 0), .cst (.int 1)]]]]]), .asg 7 (.lst [.lc (.call "settles" [] [] [.var 10, .var 11]) (.tup [.name 10, .name 11]) (.seq (.var 6)) none [10, 11], .lc (.call "end_from" [] [] [.var 10, .var 11]) (.tup [.name 10, .name 11]) (.seq (.var 6)) none [10, 11]]), .app 7 (.lc (.call "swinging" [] [] [.var 10, .var 11]) (.tup [.name 10, .name 11]) (.seq (.var 6)) none [10, 11]), .asg 8 (.lst [.lst [.cst (.bool true), .cst (.bool true), .cst (.bool true), .cst (.bool false), .cst (.bool false), .cst (.bool true), .cst (.bool false), .cst (.bool true), .cst (.bool false), .cst (.bool true), .cst (.bool true), .cst (.bool false), .cst (.bool true), .cst (.bool true)]]), .app 8 (.lst [.tup [.cst (.int 1), .cst (.int 1), .cst (.int 1)], .tup [.cst (.int 1), .cst (.int 1), .cst (.int 1)], .tup [.cst (.int 0), .cst (.int 0)], .cst .none, .cst .none, .tup [.cst (.int 1), .cst (.int 1)], .cst .none, .tup [.cst (.int 0), .cst (.int 1)], .cst .none, .tup [.cst (.int 1)], .tup [.cst (.int 1), .cst (.int 1), .cst (.int 1)]]), .seti 8 (.prim .neg [.cst (.int 1)]) (.prim .add [.prim .idx [.var 8, .prim .neg [.cst (.int 1)]], .lst [.cst .none, .tup [], .tup [.cst (.int 0), .cst (.int 2)]]]), .app 8 (.lst [.tup [], .tup [], .tup [], .tup [.cst (.int 0), .cst (.int 1)], .tup [.cst (.int 0), .cst (.int 1)], .tup [], .tup [.cst (.int 0), .cst (.int 1)], .tup [], .tup [.cst (.int 0)], .tup [], .tup [], .tup [.cst (.int 2)], .tup [], .tup []]), .asg 9 (.call "_law_lists" [] [] [.prim .idx [.var 6, .cst (.int 11)]]), .asg 7 (.prim .add [.var 7, .lst [.call "settles" [1, 0] [] [.prim .idx [.var 9, .cst (.int 1)], .prim .idx [.var 9, .cst (.int 0)]], .call "end_from" [1, 0] [] [.prim .idx [.var 9, .cst (.int 1)], .prim .idx [.var 9, .cst (.int 0)]]]]), .app 7 (.call "swinging" [1, 0] [] [.prim .idx [.var 9, .cst (.int 1)], .prim .idx [.var 9, .cst (.int 0)]]), .ite (.notE (.call "_law_same" [] [] [.var 7, .prim .add [.var 8, .lst [.cst (.bool false), .cst .none, .tup [.cst (.int 2)]]]])) [.ret (.cst (.bool false))] [], .ret (.prim .all [.lc (.call "_law_case_right" [] [] [.var 10, .var 11]) (.tup [.name 10, .name 11]) (.seq (.sl2 [.var 6] (.cst (.int 3)) (.cst (.int 12)))) none [10, 11]])]⟩
def f__law_by_hand_right : FDf := ⟨"_law_by_hand_right", [], ["_law_chain_so", "_law_swap_so", "_law_lamps_so", "_law_wants_so", "_law_keep_so", "_law_one_so", "_law_pairs_so", "_law_got", "_law_due", "_law_soft", "_law_hall_here", "_law_bag_here"], top 52, c__law_by_hand_right⟩
def c__law_right : FnD := ⟨1, 3, [.asg 1 (.call "_law_hall" [] [true, false, false] [.var 0, .prim .add [.cst (.int 1), .call "_law_take" [] [true, false] [.var 0, .cst (.int 3)]], .cst (.int 3)]), .ret (.prim .all [.lc (.call "_law_case_right" [] [] [.var 1, .call "_law_bag" [] [true, false] [.var 0, .var 1]]) (.name 2) (.rng1 (.cst (.int 2))) none [2]])]⟩
def f__law_right : FDf := ⟨"_law_right", ["_law_tin"], ["_law_tin", "_law_hall_here", "_law_lap"], top 53, c__law_right⟩
def c_law : FnD := ⟨1, 3, [.ite (.notE (.call "_law_by_hand_right" [] [] [])) [.ret (.cst (.bool false))] [], .asg 1 (.call "_law_cells" [] [] [.var 0, .cst (.int 2)]), .ret (.prim .all [.lc (.call "_law_right" [] [true] [.call "_law_box" [] [] [.var 1, .var 2]]) (.name 2) (.rng1 (.prim .len [.var 1])) none [2]])]⟩
def f_law : FDf := ⟨"law", ["_law_script"], ["_law_script", "_law_rows_here", "_law_k"], top 54, c_law⟩
def tbl : List FDf := [f_tupled, f_set_of, f_sizes_of, f_table_at, f_rows_among, f_point_of, f_wide_places, f_rows_inside, f_told_part, f_told_box, f_laps_grown, f_grown, f_rounds, f_limit, f_settles, f_end_from, f_swinging, f__law_box, f__law_take, f__law_cells, f__law_of, f__law_pick, f__law_lists, f__law_same, f__law_rows, f__law_sizes, f__law_hall, f__law_spot, f__law_start, f__law_lies, f__law_spots, f__law_both, f__law_is_point, f__law_bags, f__law_lamps, f__law_swings, f__law_maps, f__law_say, f__law_grow, f__law_chain, f__law_swap, f__law_bag, f__law_case_right, f__law_by_hand_right, f__law_right, f_law]
def gi : List (Str × Int) := [("VALUES", 0), ("WATCHED", 1), ("TABLE", 2), ("PAIR", 2)]
def kb : Kb := [("settles", ["box", "house"], [1, 0]), ("end_from", ["box", "house"], [1, 0]), ("swinging", ["box", "house"], [1, 0])]
end K10

set_option Elab.async false
set_option linter.all false
set_option autoImplicit false
set_option maxRecDepth 100000
set_option maxHeartbeats 4000000
namespace LI
open PySem
/-! ### tools: comprehensions, loops -/
theorem bind_some' {α β : Type} {x : Option α} {f : α → Option β} {a : α} (h : x = some a) : x.bind f = f a := by rw [h]; rfl
theorem wipeR_length (r : Rho) : ∀ vs : List Nat, (wipeR r vs).length = r.length
  | [] => rfl
  | v :: vs => by rw [wipeR, List.length_set, wipeR_length r vs]
theorem wipeR_off {r : Rho} {i : Nat} : ∀ {vs : List Nat}, i ∉ vs → (wipeR r vs)[i]? = r[i]?
  | [], _ => rfl
  | v :: vs, h => by
    have h1 : v ≠ i := fun e => h (by rw [e]; exact List.mem_cons_self)
    rw [wipeR, List.getElem?_set_ne h1]
    exact wipeR_off fun m => h (List.mem_cons_of_mem _ m)
theorem restR_length (r0 r : Rho) : ∀ vs : List Nat, (restR r0 r vs).length = r.length
  | [] => rfl
  | v :: vs => by rw [restR, List.length_set, restR_length r0 r vs]
theorem restR_off {r0 r : Rho} {i : Nat} : ∀ {vs : List Nat}, i ∉ vs → (restR r0 r vs)[i]? = r[i]?
  | [], _ => rfl
  | v :: vs, h => by
    have h1 : v ≠ i := fun e => h (by rw [e]; exact List.mem_cons_self)
    rw [restR, List.getElem?_set_ne h1]
    exact restR_off fun m => h (List.mem_cons_of_mem _ m)
theorem restR_on {r0 r : Rho} {i : Nat} (hl : r.length = r0.length) : ∀ {vs : List Nat}, i ∈ vs → (restR r0 r vs)[i]? = r0[i]?
  | [], h => by simp at h
  | v :: vs, h => by
    by_cases z : v = i
    · subst z
      rw [restR]
      by_cases q : v < r0.length
      · rw [List.getElem?_set_self (by rw [restR_length, hl]; exact q), List.getElem?_eq_getElem q]; rfl
      · rw [List.getElem?_eq_none (by rw [List.length_set, restR_length, hl]; omega), List.getElem?_eq_none (by omega)]
    · rw [restR, List.getElem?_set_ne z]
      exact restR_on hl ((List.mem_cons.mp h).resolve_left fun e => z e.symm)
theorem rest_same {r0 r : Rho} {vs : List Nat} (h : wipeR r vs = wipeR r0 vs) : restR r0 r vs = r0 := by
  have hl : r.length = r0.length := by rw [← wipeR_length r vs, h, wipeR_length]
  refine List.ext_getElem? fun i => ?_
  by_cases z : i ∈ vs
  · exact restR_on hl z
  · rw [restR_off z, ← wipeR_off (r := r) z, h, wipeR_off z]
theorem loopLc_fm {F : PyData → Rho → Option (Option PyData × Rho)} {vs : List Nat} {ρ : Rho} {g : PyData → Option PyData} : ∀ (items acc : List PyData) (r : Rho), wipeR r vs = wipeR ρ vs →
    (∀ x ∈ items, ∃ r', F x (wipeR ρ vs) = some (g x, r') ∧ wipeR r' vs = wipeR ρ vs) → ∃ rf, loopLc F vs items acc r = some (acc ++ items.filterMap g, rf) ∧ wipeR rf vs = wipeR ρ vs
  | [], acc, r, hr, _ => ⟨r, by simp [loopLc], hr⟩
  | x :: xs, acc, r, hr, h => by
    obtain ⟨r', h1, h2⟩ := h x List.mem_cons_self
    have ih := fun acc => loopLc_fm xs acc r' h2 fun y hy => h y (List.mem_cons_of_mem _ hy)
    simp only [loopLc, hr, h1, Option.bind_some]
    cases hg : g x with
    | none =>
      obtain ⟨rf, e1, e2⟩ := ih acc
      exact ⟨rf, by rw [List.filterMap_cons_none hg]; exact e1, e2⟩
    | some y =>
      obtain ⟨rf, e1, e2⟩ := ih (acc ++ [y])
      exact ⟨rf, by rw [List.filterMap_cons_some hg]; simpa using e1, e2⟩
/-- [elt for tg in it if c] -/
theorem ev_lc {φ : Fn} {elt : E} {tg : T} {it : It} {c : Option E} {vs : List Nat} {ρ0 ρ : Rho} {items : List PyData} (g : PyData → Option PyData) (hI : evI φ it ρ0 = some (items, ρ))
    (h : ∀ x ∈ items, ∃ r', ((setT tg x (wipeR ρ vs)).bind fun r2 => (evC φ c r2).bind fun q => if q.1 then (evE φ elt q.2).map fun y => (some y.1.d, y.2) else some (none, q.2)) = some (g x, r') ∧ wipeR r' vs = wipeR ρ vs) :
    evE φ (.lc elt tg it c vs) ρ0 = some (.own none (.list (items.filterMap g)), ρ) := by
  simp only [evE, hI, Option.bind_some]
  obtain ⟨rf, e1, e2⟩ := loopLc_fm (F := fun x r1 => (setT tg x r1).bind fun r2 => (evC φ c r2).bind fun q => if q.1 then (evE φ elt q.2).map fun y => (some y.1.d, y.2) else some (none, q.2)) items [] ρ rfl h
  rw [e1]
  simp [rest_same e2]
/-- no test -/
theorem ev_lc0 {φ : Fn} {elt : E} {tg : T} {it : It} {vs : List Nat} {ρ0 ρ : Rho} {items : List PyData} (g : PyData → PyData) (hI : evI φ it ρ0 = some (items, ρ))
    (h : ∀ x ∈ items, ∃ r2 y r', setT tg x (wipeR ρ vs) = some r2 ∧ evE φ elt r2 = some (y, r') ∧ y.d = g x ∧ wipeR r' vs = wipeR ρ vs) :
    evE φ (.lc elt tg it none vs) ρ0 = some (.own none (.list (items.map g)), ρ) := by
  rw [ev_lc (fun x => some (g x)) hI fun x hx => ?_]
  · simp
  · obtain ⟨r2, y, r', h1, h2, h3, h4⟩ := h x hx
    exact ⟨r', by simp [h1, evC, h2, h3], h4⟩
theorem loopFor_inv {F : PyData → Rho → Option (Fl × Rho)} {items : List PyData} (I : List PyData → Rho → Prop) (h : ∀ (don : List PyData) (x : PyData) (rest : List PyData) (ρ : Rho), items = don ++ x :: rest → I don ρ → ∃ ρ', F x ρ = some (.nx, ρ') ∧ I (don ++ [x]) ρ') :
    ∀ (rest don : List PyData) (ρ : Rho), items = don ++ rest → I don ρ → ∃ ρ', loopFor F rest ρ = some (.nx, ρ') ∧ I items ρ'
  | [], don, ρ, e, i => ⟨ρ, rfl, by rw [e, List.append_nil]; exact i⟩
  | x :: xs, don, ρ, e, i => by
    obtain ⟨ρ1, h1, h2⟩ := h don x xs ρ e i
    obtain ⟨ρ2, h3, h4⟩ := loopFor_inv I h xs (don ++ [x]) ρ1 (by rw [e]; simp) h2
    exact ⟨ρ2, by simp only [loopFor, h1, Option.bind_some]; exact h3, h4⟩
theorem loopFor_all {F : PyData → Rho → Option (Fl × Rho)} {items : List PyData} {ρ : Rho} (I : List PyData → Rho → Prop) (i : I [] ρ) (h : ∀ (don : List PyData) (x : PyData) (rest : List PyData) (ρ : Rho), items = don ++ x :: rest → I don ρ → ∃ ρ', F x ρ = some (.nx, ρ') ∧ I (don ++ [x]) ρ') :
    ∃ ρ', loopFor F items ρ = some (.nx, ρ') ∧ I items ρ' := loopFor_inv I h items [] ρ rfl i
/-- a while, by a measure -/
theorem loopWh_inv {c : Rho → Option (Bool × Rho)} {f : Rho → Option (Fl × Rho)} (I : Nat → Rho → Prop) (Q : Rho → Prop) (h : ∀ m ρ, I m ρ → (∃ ρ', c ρ = some (false, ρ') ∧ Q ρ') ∨ ∃ ρ1 ρ2 m', c ρ = some (true, ρ1) ∧ f ρ1 = some (.nx, ρ2) ∧ m' < m ∧ I m' ρ2) :
    ∀ (m : Nat) (ρ : Rho) (n : Nat), I m ρ → m < n → ∃ ρ', loopWh c f n ρ = some (.nx, ρ') ∧ Q ρ' := by
  intro m
  induction m using Nat.strongRecOn with
  | _ m ih =>
    intro ρ n i hn
    cases n with
    | zero => omega
    | succ n =>
      rcases h m ρ i with ⟨ρ', h1, h2⟩ | ⟨ρ1, ρ2, m', h1, h2, h3, h4⟩
      · exact ⟨ρ', by simp [loopWh, h1], h2⟩
      · obtain ⟨ρ', e1, e2⟩ := ih m' h3 ρ2 n h4 (by omega)
        exact ⟨ρ', by simp only [loopWh, h1, Option.bind_some, if_true, h2]; exact e1, e2⟩
/-- over the images of l -/
theorem ev_lcM {α : Type} {φ : Fn} {elt : E} {tg : T} {it : It} {vs : List Nat} {ρ0 ρ : Rho} (l : List α) (ι g : α → PyData) (hI : evI φ it ρ0 = some (l.map ι, ρ))
    (h : ∀ a ∈ l, ∃ y r', ((setT tg (ι a) (wipeR ρ vs)).bind fun r2 => evE φ elt r2) = some (y, r') ∧ y.d = g a ∧ wipeR r' vs = wipeR ρ vs) :
    evE φ (.lc elt tg it none vs) ρ0 = some (.own none (.list (l.map g)), ρ) := by
  simp only [evE, hI, Option.bind_some, evC, if_true]
  have key : ∀ (l : List α) (acc : List PyData) (r : Rho), wipeR r vs = wipeR ρ vs → (∀ a ∈ l, ∃ y r', ((setT tg (ι a) (wipeR ρ vs)).bind fun r2 => evE φ elt r2) = some (y, r') ∧ y.d = g a ∧ wipeR r' vs = wipeR ρ vs) →
      ∃ rf, loopLc (fun x r1 => (setT tg x r1).bind fun r2 => (evE φ elt r2).map fun y => (some y.1.d, y.2)) vs (l.map ι) acc r = some (acc ++ l.map g, rf) ∧ wipeR rf vs = wipeR ρ vs := by
    intro l
    induction l with
    | nil => intro acc r hr _; exact ⟨r, by simp [loopLc], hr⟩
    | cons a l ih =>
      intro acc r hr h
      obtain ⟨y, r', h1, h2, h3⟩ := h a List.mem_cons_self
      obtain ⟨r2, e1, e2⟩ := Option.bind_eq_some_iff.mp h1
      obtain ⟨rf, e3, e4⟩ := ih (acc ++ [g a]) r' h3 fun b hb => h b (List.mem_cons_of_mem _ hb)
      refine ⟨rf, ?_, e4⟩
      simp only [List.map_cons, loopLc, hr, e1, Option.bind_some, e2, Option.map_some, h2]
      rw [e3]; simp
  obtain ⟨rf, e1, e2⟩ := key l [] ρ rfl h
  rw [e1]
  simp [rest_same e2]
theorem ev_lcF {α : Type} {φ : Fn} {elt : E} {tg : T} {it : It} {c : E} {vs : List Nat} {ρ0 ρ : Rho} (l : List α) (ι : α → PyData) (p : α → Bool) (g : α → PyData) (hI : evI φ it ρ0 = some (l.map ι, ρ))
    (h : ∀ a ∈ l, ∃ r3, ((setT tg (ι a) (wipeR ρ vs)).bind fun r2 => evC φ (some c) r2) = some (p a, r3) ∧ (p a = false → wipeR r3 vs = wipeR ρ vs) ∧ (p a = true → ∃ y r', evE φ elt r3 = some (y, r') ∧ y.d = g a ∧ wipeR r' vs = wipeR ρ vs)) :
    evE φ (.lc elt tg it (some c) vs) ρ0 = some (.own none (.list ((l.filter p).map g)), ρ) := by
  simp only [evE, hI, Option.bind_some]
  have key : ∀ (l : List α) (acc : List PyData) (r : Rho), wipeR r vs = wipeR ρ vs → (∀ a ∈ l, ∃ r3, ((setT tg (ι a) (wipeR ρ vs)).bind fun r2 => evC φ (some c) r2) = some (p a, r3) ∧ (p a = false → wipeR r3 vs = wipeR ρ vs) ∧ (p a = true → ∃ y r', evE φ elt r3 = some (y, r') ∧ y.d = g a ∧ wipeR r' vs = wipeR ρ vs)) →
      ∃ rf, loopLc (fun x r1 => (setT tg x r1).bind fun r2 => (evC φ (some c) r2).bind fun q => if q.1 = true then (evE φ elt q.2).map fun y => (some y.1.d, y.2) else some (none, q.2)) vs (l.map ι) acc r = some (acc ++ (l.filter p).map g, rf) ∧ wipeR rf vs = wipeR ρ vs := by
    intro l
    induction l with
    | nil => intro acc r hr _; exact ⟨r, by simp [loopLc], hr⟩
    | cons a l ih =>
      intro acc r hr h
      obtain ⟨r3, h1, h2, h3⟩ := h a List.mem_cons_self
      obtain ⟨r2, e1, e2⟩ := Option.bind_eq_some_iff.mp h1
      cases hp : p a with
      | false =>
        obtain ⟨rf, e3, e4⟩ := ih acc r3 (h2 hp) fun b hb => h b (List.mem_cons_of_mem _ hb)
        refine ⟨rf, ?_, e4⟩
        simp only [List.map_cons, loopLc, hr, e1, Option.bind_some, e2, hp, Bool.false_eq_true, if_false]
        rw [e3]; simp [hp]
      | true =>
        obtain ⟨y, r', k1, k2, k3⟩ := h3 hp
        obtain ⟨rf, e3, e4⟩ := ih (acc ++ [g a]) r' k3 fun b hb => h b (List.mem_cons_of_mem _ hb)
        refine ⟨rf, ?_, e4⟩
        simp only [List.map_cons, loopLc, hr, e1, Option.bind_some, e2, hp, if_true, k1, Option.map_some, k2]
        rw [e3]; simp [hp]
  obtain ⟨rf, e1, e2⟩ := key l [] ρ rfl h
  rw [e1]
  simp [rest_same e2]
theorem loopFor_M {α : Type} {F : PyData → Rho → Option (Fl × Rho)} (ι : α → PyData) (I : List α → Rho → Prop) (whole : List α) (h : ∀ (don : List α) (a : α) (rest : List α) (ρ : Rho), whole = don ++ a :: rest → I don ρ → ∃ ρ', F (ι a) ρ = some (.nx, ρ') ∧ I (don ++ [a]) ρ') :
    ∀ (rest don : List α) (ρ : Rho), whole = don ++ rest → I don ρ → ∃ ρ', loopFor F (rest.map ι) ρ = some (.nx, ρ') ∧ I whole ρ'
  | [], don, ρ, e, i => ⟨ρ, rfl, by rw [e, List.append_nil]; exact i⟩
  | a :: rest, don, ρ, e, i => by
    obtain ⟨ρ1, h1, h2⟩ := h don a rest ρ e i
    obtain ⟨ρ2, h3, h4⟩ := loopFor_M ι I whole h rest (don ++ [a]) ρ1 (by rw [e]; simp) h2
    exact ⟨ρ2, by simp only [List.map_cons, loopFor, h1, Option.bind_some]; exact h3, h4⟩
theorem loopFor_M0 {α : Type} {F : PyData → Rho → Option (Fl × Rho)} {ρ : Rho} (l : List α) (ι : α → PyData) (I : List α → Rho → Prop) (i : I [] ρ) (h : ∀ (don : List α) (a : α) (rest : List α) (ρ : Rho), l = don ++ a :: rest → I don ρ → ∃ ρ', F (ι a) ρ = some (.nx, ρ') ∧ I (don ++ [a]) ρ') :
    ∃ ρ', loopFor F (l.map ι) ρ = some (.nx, ρ') ∧ I l ρ' := loopFor_M ι I l h l [] ρ rfl i
/-- the same, told by one equation -/
theorem ev_lcN {α : Type} {φ : Fn} {elt : E} {tg : T} {it : It} {vs : List Nat} {ρ0 ρ : Rho} (l : List α) (ι g : α → PyData) (hI : evI φ it ρ0 = some (l.map ι, ρ))
    (h : ∀ a ∈ l, (((setT tg (ι a) (wipeR ρ vs)).bind fun r2 => evE φ elt r2).map fun q => (q.1.d, wipeR q.2 vs)) = some (g a, wipeR ρ vs)) :
    evE φ (.lc elt tg it none vs) ρ0 = some (.own none (.list (l.map g)), ρ) := ev_lcM l ι g hI fun a ha => by
  have := h a ha
  rw [Option.map_eq_some_iff] at this
  obtain ⟨⟨y, r'⟩, h1, h2⟩ := this
  exact ⟨y, r', h1, (Prod.mk.inj h2).1, (Prod.mk.inj h2).2⟩
theorem ev_lcG {α : Type} {φ : Fn} {elt : E} {tg : T} {it : It} {c : E} {vs : List Nat} {ρ0 ρ : Rho} (l : List α) (ι : α → PyData) (p : α → Bool) (g : α → PyData) (hI : evI φ it ρ0 = some (l.map ι, ρ))
    (h : ∀ a ∈ l, (((setT tg (ι a) (wipeR ρ vs)).bind fun r2 => evC φ (some c) r2).bind fun q => if q.1 = true then (evE φ elt q.2).map fun y => (some y.1.d, wipeR y.2 vs) else some (none, wipeR q.2 vs)) = some (if p a = true then some (g a) else none, wipeR ρ vs)) :
    evE φ (.lc elt tg it (some c) vs) ρ0 = some (.own none (.list ((l.filter p).map g)), ρ) := ev_lcF l ι p g hI fun a ha => by
  obtain ⟨⟨b, r3⟩, h1, h2⟩ := Option.bind_eq_some_iff.mp (h a ha)
  dsimp only at h2
  cases b with
  | false =>
    simp only [Bool.false_eq_true, if_false] at h2
    cases hp : p a with
    | false => rw [hp] at h2; simp at h2; exact ⟨r3, h1, fun _ => h2, fun z => nomatch z⟩
    | true => rw [hp] at h2; simp at h2
  | true =>
    simp only [if_true] at h2
    rw [Option.map_eq_some_iff] at h2
    obtain ⟨⟨y, r'⟩, h3, h4⟩ := h2
    cases hp : p a with
    | false => rw [hp] at h4; simp at h4
    | true => rw [hp] at h4; simp at h4; exact ⟨r3, h1, fun z => (Bool.noConfusion z), fun _ => ⟨y, r', h3, h4.1, h4.2⟩⟩
/-- two clauses -/
theorem loopIn_N {β : Type} {φ : Fn} {elt : E} {tg : T} {vs : List Nat} {ρ : Rho} (κ g : β → PyData) : ∀ (l : List β) (acc : List PyData) (r : Rho), wipeR r vs = wipeR ρ vs → (∀ b ∈ l, (((setT tg (κ b) (wipeR ρ vs)).bind fun r2 => evE φ elt r2).map fun q => (q.1.d, wipeR q.2 vs)) = some (g b, wipeR ρ vs)) → acc.length + l.length ≤ szl →
    loopIn (fun x r1 => (setT tg x r1).bind fun r2 => (evC φ none r2).bind fun q => if q.1 = true then (evE φ elt q.2).map fun y => (some y.1.d, y.2) else some (none, q.2)) vs (l.map κ) acc r = some (acc ++ l.map g, wipeR ρ vs)
  | [], acc, r, hr, _, _ => by simp [loopIn, hr]
  | b :: l, acc, r, hr, h, hz => by
    have hb := h b List.mem_cons_self
    rw [Option.map_eq_some_iff] at hb
    obtain ⟨⟨y, r'⟩, h1, h2⟩ := hb
    obtain ⟨r2, e1, e2⟩ := Option.bind_eq_some_iff.mp h1
    rw [List.length_cons] at hz
    have ih := loopIn_N (φ := φ) (elt := elt) (tg := tg) (vs := vs) (ρ := ρ) κ g l (acc ++ [g b]) r' (Prod.mk.inj h2).2 (fun b hb => h b (List.mem_cons_of_mem _ hb)) (by rw [List.length_append, List.length_singleton]; omega)
    simp only [List.map_cons, loopIn, hr, e1, Option.bind_some, evC, if_true, e2, Option.map_some, (Prod.mk.inj h2).1]
    rw [if_pos (by omega)]
    simp only [evC, Option.bind_some, if_true] at ih
    rw [ih]; simp
theorem ev_lc2N {α β : Type} {φ : Fn} {elt : E} {tg tg2 : T} {it it2 : It} {vs vs2 : List Nat} {ρ0 ρ : Rho} (l : List α) (ι : α → PyData) (m : α → List β) (κ : β → PyData) (g : α → β → PyData) (R3 : α → Rho) (hI : evI φ it ρ0 = some (l.map ι, ρ))
    (ho : ∀ a ∈ l, ((setT tg (ι a) (wipeR ρ vs)).bind fun r2 => evI φ it2 r2) = some ((m a).map κ, R3 a)) (hw : ∀ a ∈ l, wipeR (wipeR (R3 a) vs2) vs = wipeR ρ vs)
    (hi : ∀ a ∈ l, ∀ b ∈ m a, (((setT tg2 (κ b) (wipeR (R3 a) vs2)).bind fun r2 => evE φ elt r2).map fun q => (q.1.d, wipeR q.2 vs2)) = some (g a b, wipeR (R3 a) vs2)) (hz : (l.flatMap m).length ≤ szl) :
    evE φ (.lc2 elt tg it none tg2 it2 none vs vs2) ρ0 = some (.own none (.list (l.flatMap fun a => (m a).map (g a))), ρ) := by
  simp only [evE, hI, Option.bind_some]
  have key : ∀ (l : List α) (acc : List PyData) (r : Rho), wipeR r vs = wipeR ρ vs → (∀ a ∈ l, ((setT tg (ι a) (wipeR ρ vs)).bind fun r2 => evI φ it2 r2) = some ((m a).map κ, R3 a)) → (∀ a ∈ l, wipeR (wipeR (R3 a) vs2) vs = wipeR ρ vs) →
      (∀ a ∈ l, ∀ b ∈ m a, (((setT tg2 (κ b) (wipeR (R3 a) vs2)).bind fun r2 => evE φ elt r2).map fun q => (q.1.d, wipeR q.2 vs2)) = some (g a b, wipeR (R3 a) vs2)) → acc.length + (l.flatMap m).length ≤ szl →
      ∃ rf, loopLc2 (fun x r1 => (setT tg x r1).bind fun r2 => (evC φ none r2).bind fun q => if q.1 = true then (evI φ it2 q.2).map fun z => (some z.1, z.2) else some (none, q.2)) (fun x r1 => (setT tg2 x r1).bind fun r2 => (evC φ none r2).bind fun q => if q.1 = true then (evE φ elt q.2).map fun y => (some y.1.d, y.2) else some (none, q.2)) vs vs2 (l.map ι) acc r = some (acc ++ l.flatMap (fun a => (m a).map (g a)), rf) ∧ wipeR rf vs = wipeR ρ vs := by
    intro l
    induction l with
    | nil => intro acc r hr _ _ _ _; exact ⟨r, by simp [loopLc2], hr⟩
    | cons a l ih =>
      intro acc r hr ho hw hi hz
      have h1 := ho a List.mem_cons_self
      obtain ⟨r2, e1, e2⟩ := Option.bind_eq_some_iff.mp h1
      rw [List.flatMap_cons, List.length_append] at hz
      have e3 := loopIn_N (φ := φ) (elt := elt) (tg := tg2) (vs := vs2) (ρ := R3 a) κ (g a) (m a) acc (R3 a) rfl (hi a List.mem_cons_self) (by omega)
      obtain ⟨rf, e4, e5⟩ := ih (acc ++ (m a).map (g a)) (wipeR (R3 a) vs2) (hw a List.mem_cons_self) (fun b hb => ho b (List.mem_cons_of_mem _ hb)) (fun b hb => hw b (List.mem_cons_of_mem _ hb)) (fun b hb => hi b (List.mem_cons_of_mem _ hb)) (by rw [List.length_append, List.length_map]; omega)
      refine ⟨rf, ?_, e5⟩
      simp only [List.map_cons, loopLc2, hr, e1, Option.bind_some, evC, if_true, e2, Option.map_some]
      simp only [evC, Option.bind_some, if_true] at e3 e4
      rw [e3]
      simp only [Option.bind_some]
      rw [e4]
      simp [List.flatMap_cons]
  obtain ⟨rf, e1, e2⟩ := key l [] ρ rfl ho hw hi (by simpa using hz)
  rw [e1]
  simp [rest_same e2]
/-! ### statements -/
theorem evSs_nx {φ : Fn} {st : S} {ss : List S} {ρ ρ1 : Rho} (h : evS φ st ρ = some (.nx, ρ1)) : evSs φ (st :: ss) ρ = evSs φ ss ρ1 := by simp only [evSs, h, Option.bind_some]
theorem evSs_ret {φ : Fn} {st : S} {ss : List S} {ρ ρ1 : Rho} {v : SV} (h : evS φ st ρ = some (.ret v, ρ1)) : evSs φ (st :: ss) ρ = some (.ret v, ρ1) := by simp only [evSs, h, Option.bind_some]
theorem evS_for {φ : Fn} {tg : T} {it : It} {body : List S} {ρ ρ1 ρ' : Rho} {items : List PyData} {fl : Fl} (hI : evI φ it ρ = some (items, ρ1)) (hl : loopFor (fun x r1 => (setT tg x r1).bind fun r2 => evSs φ body r2) items ρ1 = some (fl, ρ')) : evS φ (.forS tg it body) ρ = some (fl, ρ') := by
  simp only [evS, hI, Option.bind_some]; exact hl
theorem evS_asg {φ : Fn} {i : Nat} {e : E} {ρ ρ1 : Rho} {v : SV} (h : evE φ e ρ = some (v, ρ1)) : evS φ (.asg i e) ρ = some (.nx, ρ1.set i (some (setV v))) := by simp only [evS, h, Option.map_some]
theorem evS_while {φ : Fn} {c : E} {body : List S} {ρ ρ' : Rho} (h : loopWh (fun r1 => evT φ c r1) (fun r1 => evSs φ body r1) wfuel ρ = some (.nx, ρ')) : evS φ (.whileS c body) ρ = some (.nx, ρ') := by simp only [evS]; exact h
theorem evS_ite {φ : Fn} {c : E} {a b : List S} {ρ ρ1 : Rho} {t : Bool} (h : evT φ c ρ = some (t, ρ1)) : evS φ (.ite c a b) ρ = if t then evSs φ a ρ1 else evSs φ b ρ1 := by simp only [evS, h, Option.bind_some]
/-! ### sequences -/
theorem pr_idx {d : PyData} {xs : List PyData} {i : Int} (h : seqOf d = some xs) : prim .idx [d, .int i] = (atD xs i).map .dat := by
  cases d <;> simp [seqOf] at h <;> subst h <;> rfl
theorem pr_len {d : PyData} {xs : List PyData} (h : seqOf d = some xs) : prim .len [d] = some (.dat (.int xs.length)) := by
  simp [prim, p1, h, din]
theorem pr_tuple {d : PyData} {xs : List PyData} (h : seqOf d = some xs) : prim .tuple [d] = some (.dat (.tuple xs)) := by
  simp [prim, p1, h]
theorem atD_nat {xs : List PyData} {i : Nat} {d : PyData} (h : xs[i]? = some d) : atD xs (i : Int) = some d := by
  have hl := (List.getElem?_eq_some_iff.mp h).1
  unfold atD ixD
  rw [if_pos (by omega), if_pos (by omega)]
  simpa using h
theorem atD_last {xs : List PyData} {d : PyData} (h : xs.getLast? = some d) : atD xs (-1) = some d := by
  have hn : xs ≠ [] := fun z => by rw [z] at h; cases h
  have hl : 0 < xs.length := List.length_pos_iff.mpr hn
  unfold atD ixD
  rw [if_neg (by omega), if_pos (by omega)]
  have e : ((-1 : Int) + (xs.length : Int)).toNat = xs.length - 1 := by omega
  rw [Option.bind_some, e, ← List.getLast?_eq_getElem?]
  exact h
@[simp] theorem seq_list (xs : List PyData) : seqOf (.list xs) = some xs := rfl
@[simp] theorem seq_tup (xs : List PyData) : seqOf (.tuple xs) = some xs := rfl
@[simp] theorem sv_dat (d : PyData) : (SV.dat d).d = d := rfl
@[simp] theorem sv_own (t : Option Nat) (d : PyData) : (SV.own t d).d = d := rfl
theorem okMul_of {i j : Int} (h1 : -(2 ^ 64) < j) (h2 : j < 2 ^ 64) : okMul i j = true := by
  unfold okMul
  rw [decide_eq_true h1, decide_eq_true h2]
  simp
theorem pr_mul {i j : Int} (h1 : 0 ≤ j) (h2 : j ≤ 1000000) : prim .mul [.int i, .int j] = some (.dat (.int (i * j))) := by
  have e : okMul i j = true := okMul_of (Int.lt_of_lt_of_le (by decide) h1) (Int.lt_of_le_of_lt h2 (by decide))
  simp only [prim, pMul, e, if_true, din]
theorem pr_add {i j : Int} : prim .add [.int i, .int j] = some (.dat (.int (i + j))) := rfl
theorem pr_sub {i j : Int} : prim .sub [.int i, .int j] = some (.dat (.int (i - j))) := rfl
theorem ev_prim {φ : Fn} {p : Pr} {es : List E} {ρ ρ1 : Rho} {os : List Opd} {ds : List PyData} {v : SV} (h1 : evO φ es ρ = some (os, ρ1)) (h2 : rdOs ρ1 os = some ds) (h3 : prim p ds = some v) : evE φ (.prim p es) ρ = some (v, ρ1) := by
  simp only [evE, h1, Option.bind_some, h2, h3, Option.map_some]
theorem setT_two (i j : Nat) (a b : PyData) (ρ : Rho) : setT (.tup [.name i, .name j]) (.tuple [a, b]) ρ = some ((ρ.set i (some (.dat a))).set j (some (.dat b))) := by
  simp only [setT, setTs, Option.bind_some]
theorem setT_one (i : Nat) (a : PyData) (ρ : Rho) : setT (.name i) a ρ = some (ρ.set i (some (.dat a))) := by simp only [setT]
theorem ev_rng1 {φ : Fn} {c : E} {ρ ρ1 : Rho} {v : SV} {n : Int} (h : evE φ c ρ = some (v, ρ1)) (hv : v.d = .int n) (ok : okRg 0 n = true) : evI φ (.rng1 c) ρ = some (rgD 0 n, ρ1) := by
  simp only [evI, h, Option.bind_some, hv]
  exact if_pos ok
theorem evE_ite {φ : Fn} {c a b : E} {ρ ρ1 : Rho} {v : SV} {t : Bool} (h : evE φ c ρ = some (v, ρ1)) (ht : truth v.d = some t) : evE φ (.ite c a b) ρ = if t then evE φ a ρ1 else evE φ b ρ1 := by
  simp only [evE, h, Option.bind_some, ht]
theorem ev_var {φ : Fn} {i : Nat} {d : PyData} {ρ : Rho} (h : ρ[i]? = some (some (.dat d))) : evE φ (.var i) ρ = some (.dat d, ρ) := by
  simp only [evE, h]
def isV : E → Bool
  | .var _ => true
  | _ => false
theorem ev_or {φ : Fn} {a b : E} {ρ ρ1 : Rho} {v : SV} {t : Bool} (h : evE φ a ρ = some (v, ρ1)) (ht : truth v.d = some t) : evE φ (.orE a b) ρ = if t then some (v, ρ1) else evE φ b ρ1 := by
  simp only [evE, h, Option.bind_some, ht]
theorem ev_T {φ : Fn} {c : E} {ρ ρ1 : Rho} {v : SV} {t : Bool} (h : evE φ c ρ = some (v, ρ1)) (ht : truth v.d = some t) : evT φ c ρ = some (t, ρ1) := by
  simp only [evT, h, Option.bind_some, ht, Option.map_some]
end LI

set_option Elab.async false
set_option linter.all false
set_option autoImplicit false
set_option maxRecDepth 100000
set_option maxHeartbeats 4000000
namespace LI
open PySem
/-! ### weakest conditions: one rule for each form -/
@[irreducible] def WE (φ : Fn) (e : E) (ρ : Rho) (Q : SV → Rho → Prop) : Prop := ∃ v ρ', evE φ e ρ = some (v, ρ') ∧ Q v ρ'
@[irreducible] def WO (φ : Fn) (es : List E) (ρ : Rho) (Q : List Opd → Rho → Prop) : Prop := ∃ v ρ', evO φ es ρ = some (v, ρ') ∧ Q v ρ'
@[irreducible] def WL (φ : Fn) (es : List E) (ρ : Rho) (Q : List PyData → Rho → Prop) : Prop := ∃ v ρ', evL φ es ρ = some (v, ρ') ∧ Q v ρ'
@[irreducible] def WA (φ : Fn) (es : List E) (mu : List Bool) (ρ : Rho) (Q : List SV → Back → Rho → Prop) : Prop := ∃ v bk ρ', evA φ es mu ρ = some (v, bk, ρ') ∧ Q v bk ρ'
@[irreducible] def WV (φ : Fn) (es : List E) (ρ : Rho) (Q : List SV → Rho → Prop) : Prop := ∃ v ρ', evV φ es ρ = some (v, ρ') ∧ Q v ρ'
@[irreducible] def WI (φ : Fn) (it : It) (ρ : Rho) (Q : List PyData → Rho → Prop) : Prop := ∃ v ρ', evI φ it ρ = some (v, ρ') ∧ Q v ρ'
@[irreducible] def WC (φ : Fn) (c : Option E) (ρ : Rho) (Q : Bool → Rho → Prop) : Prop := ∃ v ρ', evC φ c ρ = some (v, ρ') ∧ Q v ρ'
@[irreducible] def WT (φ : Fn) (c : E) (ρ : Rho) (Q : Bool → Rho → Prop) : Prop := ∃ v ρ', evT φ c ρ = some (v, ρ') ∧ Q v ρ'
@[irreducible] def WS (φ : Fn) (s : S) (ρ : Rho) (Q : Fl → Rho → Prop) : Prop := ∃ v ρ', evS φ s ρ = some (v, ρ') ∧ Q v ρ'
@[irreducible] def WSs (φ : Fn) (ss : List S) (ρ : Rho) (Q : Fl → Rho → Prop) : Prop := ∃ v ρ', evSs φ ss ρ = some (v, ρ') ∧ Q v ρ'
@[irreducible] def WF (φ : Fn) (f : Str) (as : List SV) (Q : SV → Rho → Prop) : Prop := ∃ r outs, φ f as = some (r, outs) ∧ Q r outs
@[irreducible] def WR (φ : Fn) (c : FnD) (as : List SV) (Q : SV → Rho → Prop) : Prop := ∃ r outs, runFn φ c as = some (r, outs) ∧ Q r outs
@[irreducible] def PW (p : Pr) (ds : List PyData) (Q : SV → Prop) : Prop := ∃ v, prim p ds = some v ∧ Q v
@[irreducible] def TW (d : PyData) (Q : Bool → Prop) : Prop := ∃ t, truth d = some t ∧ Q t
@[irreducible] def RW (ρ : Rho) (os : List Opd) (Q : List PyData → Prop) : Prop := ∃ ds, rdOs ρ os = some ds ∧ Q ds
@[irreducible] def TS (tg : T) (d : PyData) (ρ : Rho) (Q : Rho → Prop) : Prop := ∃ ρ', setT tg d ρ = some ρ' ∧ Q ρ'
@[irreducible] def SW (d : PyData) (Q : List PyData → Prop) : Prop := ∃ xs, seqOf d = some xs ∧ Q xs
@[irreducible] def NW (d : PyData) (Q : Nat → Prop) : Prop := ∃ n : Nat, d = .int (n : Int) ∧ n ≤ 1000000 ∧ Q n
@[irreducible] def XW (u : PyData) (ρ : Rho) (i : Nat) (Q : Option Nat → List PyData → Nat → Prop) : Prop := ∃ k t ds j, u = .int k ∧ ρ[i]? = some (some (.own t (.list ds))) ∧ ixD ds.length k = some j ∧ Q t ds j
@[irreducible] def OW (ρ : Rho) (i : Nat) (Q : Option Nat → List PyData → Prop) : Prop := ∃ t ds, ρ[i]? = some (some (.own t (.list ds))) ∧ Q t ds
@[irreducible] def LW (n : Nat) (Q : Prop) : Prop := n ≤ 1000000 ∧ Q
@[irreducible] def DW (ρ : Rho) (i : Nat) (Q : Option Nat → PyData → Prop) : Prop := ∃ t d, ρ[i]? = some (some (.own t d)) ∧ Q t d
theorem dw_of {ρ : Rho} {i : Nat} {t : Option Nat} {d : PyData} {Q : Option Nat → PyData → Prop} (h : ρ[i]? = some (some (.own t d))) (q : Q t d) : DW ρ i Q := by unfold DW; exact ⟨_, _, h, q⟩
theorem sw_of {d : PyData} {xs : List PyData} {Q : List PyData → Prop} (h : seqOf d = some xs) (q : Q xs) : SW d Q := by unfold SW; exact ⟨_, h, q⟩
theorem nw_of {n : Nat} {Q : Nat → Prop} (h : n ≤ 1000000) (q : Q n) : NW (.int (n : Int)) Q := by unfold NW; exact ⟨_, rfl, h, q⟩
theorem nw_lit {d : PyData} {n : Nat} {Q : Nat → Prop} (e : d = .int (n : Int)) (h : n ≤ 1000000) (q : Q n) : NW d Q := by unfold NW; exact ⟨_, e, h, q⟩
theorem xw_of {u : PyData} {k : Int} {ρ : Rho} {i j : Nat} {t : Option Nat} {ds : List PyData} {Q : Option Nat → List PyData → Nat → Prop} (h1 : u = .int k) (h2 : ρ[i]? = some (some (.own t (.list ds)))) (h3 : ixD ds.length k = some j) (q : Q t ds j) : XW u ρ i Q := by unfold XW; exact ⟨_, _, _, _, h1, h2, h3, q⟩
theorem ow_of {ρ : Rho} {i : Nat} {t : Option Nat} {ds : List PyData} {Q : Option Nat → List PyData → Prop} (h : ρ[i]? = some (some (.own t (.list ds)))) (q : Q t ds) : OW ρ i Q := by unfold OW; exact ⟨_, _, h, q⟩
theorem lw_of {n : Nat} {Q : Prop} (h : n ≤ 1000000) (q : Q) : LW n Q := by unfold LW; exact ⟨h, q⟩
theorem ixD_nat {n i : Nat} (h : i < n) : ixD n (i : Int) = some i := by unfold ixD; rw [if_pos (by omega), if_pos (by omega)]; simp
theorem go_nx {X Y : Prop} (x : X) : (Fl.nx = .nx → X) ∧ (Fl.nx ≠ .nx → Y) := ⟨fun _ => x, fun h => absurd rfl h⟩
theorem go_ret {v : SV} {X Y : Prop} (y : Y) : (Fl.ret v = .nx → X) ∧ (Fl.ret v ≠ .nx → Y) := ⟨fun h => (by cases h), fun _ => y⟩
theorem go_nx1 {X : Prop} (x : X) : Fl.nx = .nx ∧ X := ⟨rfl, x⟩
theorem go_true {X Y : Prop} (x : X) : (true = true → X) ∧ (true = false → Y) := ⟨fun _ => x, fun h => (by cases h)⟩
theorem go_false {X Y : Prop} (y : Y) : (false = true → X) ∧ (false = false → Y) := ⟨fun h => (by cases h), fun _ => y⟩
theorem bk_none {X : Prop} (x : X) : (none : Back) = none ∧ X := ⟨rfl, x⟩
theorem giveB_own {outs r : Rho} {j i : Nat} {t : Option Nat} {d : PyData} (h : outs[j]? = some (some (.own (some j) d))) : giveB outs (some (j, i, t)) r = r.set i (some (.own t d)) := by simp [giveB, h]
theorem own_ok {ρ : Rho} {i : Nat} {X : Prop} (h : ownL ρ i = true) (x : X) : ownL ρ i = true ∧ X := ⟨h, x⟩
@[irreducible] def EndQ (Q : SV → Rho → Prop) (f : Fl) (r : Rho) : Prop := match f with
  | .ret v => Q v r
  | .nx => Q (.dat .none) r
  | _ => False
theorem endq_ret {Q : SV → Rho → Prop} {v : SV} {r : Rho} (q : Q v r) : EndQ Q (.ret v) r := by unfold EndQ; exact q
theorem endq_nx {Q : SV → Rho → Prop} {r : Rho} (q : Q (.dat .none) r) : EndQ Q .nx r := by unfold EndQ; exact q
theorem setV_dat (d : PyData) : setV (.dat d) = .dat d := rfl
theorem setV_own (t : Option Nat) (d : PyData) : setV (.own t d) = .own none d := rfl
theorem setV_d (v : SV) : (setV v).d = v.d := by cases v <;> rfl
section rules
variable {φ : Fn} {ρ : Rho}
theorem we_mono {e : E} {Q R : SV → Rho → Prop} (h : WE φ e ρ Q) (i : ∀ v r, Q v r → R v r) : WE φ e ρ R := by
  unfold WE at *; obtain ⟨v, r, a, b⟩ := h; exact ⟨v, r, a, i v r b⟩
theorem ws_mono {e : S} {Q R : Fl → Rho → Prop} (h : WS φ e ρ Q) (i : ∀ v r, Q v r → R v r) : WS φ e ρ R := by
  unfold WS at *; obtain ⟨v, r, a, b⟩ := h; exact ⟨v, r, a, i v r b⟩
theorem wss_mono {e : List S} {Q R : Fl → Rho → Prop} (h : WSs φ e ρ Q) (i : ∀ v r, Q v r → R v r) : WSs φ e ρ R := by
  unfold WSs at *; obtain ⟨v, r, a, b⟩ := h; exact ⟨v, r, a, i v r b⟩
theorem wf_mono {f : Str} {as : List SV} {Q R : SV → Rho → Prop} (h : WF φ f as Q) (i : ∀ v r, Q v r → R v r) : WF φ f as R := by
  unfold WF at *; obtain ⟨v, r, a, b⟩ := h; exact ⟨v, r, a, i v r b⟩
theorem wr_mono {c : FnD} {as : List SV} {Q R : SV → Rho → Prop} (h : WR φ c as Q) (i : ∀ v r, Q v r → R v r) : WR φ c as R := by
  unfold WR at *; obtain ⟨v, r, a, b⟩ := h; exact ⟨v, r, a, i v r b⟩
theorem wi_mono {e : It} {Q R : List PyData → Rho → Prop} (h : WI φ e ρ Q) (i : ∀ v r, Q v r → R v r) : WI φ e ρ R := by
  unfold WI at *; obtain ⟨v, r, a, b⟩ := h; exact ⟨v, r, a, i v r b⟩
/- expressions -/
theorem we_var {i : Nat} {d : PyData} {Q : SV → Rho → Prop} (h : ρ[i]? = some (some (.dat d))) (q : Q (.dat d) ρ) : WE φ (.var i) ρ Q := by
  unfold WE; exact ⟨_, _, by simp only [evE, h], q⟩
theorem we_varo {i : Nat} {t : Option Nat} {d : PyData} {Q : SV → Rho → Prop} (h : ρ[i]? = some (some (.own t d))) (q : Q (.dat d) (ρ.set i (some (.dat d)))) : WE φ (.var i) ρ Q := by
  unfold WE; exact ⟨_, _, by simp only [evE, h], q⟩
theorem set_same {r : Rho} {i : Nat} {x : Option SV} (h : r[i]? = some x) : r.set i x = r := by
  refine List.ext_getElem? fun j => ?_
  by_cases z : i = j
  · subst z
    rw [List.getElem?_set_self (List.getElem?_eq_some_iff.mp h).1, h]
  · rw [List.getElem?_set_ne z]
theorem we_varx {i : Nat} {v : SV} {Q : SV → Rho → Prop} (h : ρ[i]? = some (some v)) (q : Q (.dat v.d) (ρ.set i (some (.dat v.d)))) : WE φ (.var i) ρ Q := by
  cases v with
  | dat d => rw [sv_dat, set_same h] at q; exact we_var h q
  | own t d => exact we_varo h q
theorem we_cst {d : PyData} {Q : SV → Rho → Prop} (q : Q (.dat d) ρ) : WE φ (.cst d) ρ Q := by
  unfold WE; exact ⟨_, _, by simp only [evE], q⟩
theorem we_tup {es : List E} {Q : SV → Rho → Prop} (h : WL φ es ρ fun ds ρ' => LW ds.length (Q (.dat (.tuple ds)) ρ')) : WE φ (.tup es) ρ Q := by
  unfold WL LW at h; unfold WE; obtain ⟨ds, ρ', a, b, c⟩ := h
  exact ⟨_, _, by simp only [evE, a, Option.bind_some]; exact if_pos (Nat.le_trans b (by decide)), c⟩
theorem we_lst {es : List E} {Q : SV → Rho → Prop} (h : WL φ es ρ fun ds ρ' => LW ds.length (Q (.own none (.list ds)) ρ')) : WE φ (.lst es) ρ Q := by
  unfold WL LW at h; unfold WE; obtain ⟨ds, ρ', a, b, c⟩ := h
  exact ⟨_, _, by simp only [evE, a, Option.bind_some]; exact if_pos (Nat.le_trans b (by decide)), c⟩
theorem we_call {f : Str} {mu : List Bool} {es : List E} {Q : SV → Rho → Prop} (h : WA φ es mu ρ fun as bk ρ' => WF φ f as fun r outs => Q r (giveB outs bk ρ')) : WE φ (.call f [] mu es) ρ Q := by
  unfold WA WF at h; unfold WE; obtain ⟨as, bk, ρ', a, r, outs, b, c⟩ := h
  exact ⟨_, _, by simp [evE, a, perm, b], c⟩
theorem we_callk {f : Str} {ks : List Nat} {es : List E} {Q : SV → Rho → Prop} (h : WA φ es [] ρ fun as bk ρ' => bk = none ∧ ∃ as', perm ks as = some as' ∧ WF φ f as' fun r outs => Q r ρ') : WE φ (.call f ks [] es) ρ Q := by
  unfold WA WF at h; unfold WE; obtain ⟨as, bk, ρ', a, rfl, as', e, r, outs, b, c⟩ := h
  exact ⟨r, ρ', by simp [evE, a, e, b, giveB], c⟩
theorem we_prim {p : Pr} {es : List E} {Q : SV → Rho → Prop} (h : WO φ es ρ fun os ρ' => RW ρ' os fun ds => PW p ds fun v => Q v ρ') : WE φ (.prim p es) ρ Q := by
  unfold WO RW PW at h; unfold WE; obtain ⟨os, ρ', a, ds, b, v, c, q⟩ := h
  exact ⟨v, ρ', by simp only [evE, a, Option.bind_some, b, c, Option.map_some], q⟩
theorem we_and {a b : E} {Q : SV → Rho → Prop} (h : WE φ a ρ fun v ρ' => TW v.d fun t => (t = true → WE φ b ρ' Q) ∧ (t = false → Q v ρ')) : WE φ (.andE a b) ρ Q := by
  unfold WE TW at *; obtain ⟨v, ρ', x, t, y, z1, z2⟩ := h
  cases t with
  | true => obtain ⟨v', ρ2, x2, q⟩ := z1 rfl; exact ⟨v', ρ2, by simp only [evE, x, Option.bind_some, y, if_true, x2], q⟩
  | false => exact ⟨v, ρ', by simp [evE, x, y], z2 rfl⟩
theorem we_or {a b : E} {Q : SV → Rho → Prop} (h : WE φ a ρ fun v ρ' => TW v.d fun t => (t = true → Q v ρ') ∧ (t = false → WE φ b ρ' Q)) : WE φ (.orE a b) ρ Q := by
  unfold WE TW at *; obtain ⟨v, ρ', x, t, y, z1, z2⟩ := h
  cases t with
  | true => exact ⟨v, ρ', by simp [evE, x, y], z1 rfl⟩
  | false => obtain ⟨v', ρ2, x2, q⟩ := z2 rfl; exact ⟨v', ρ2, by simp [evE, x, y, x2], q⟩
theorem we_not {a : E} {Q : SV → Rho → Prop} (h : WE φ a ρ fun v ρ' => TW v.d fun t => Q (.dat (.bool (!t))) ρ') : WE φ (.notE a) ρ Q := by
  unfold WE TW at *; obtain ⟨v, ρ', x, t, y, q⟩ := h
  exact ⟨_, ρ', by simp [evE, x, y], q⟩
theorem we_ite {c a b : E} {Q : SV → Rho → Prop} (h : WE φ c ρ fun v ρ' => TW v.d fun t => (t = true → WE φ a ρ' Q) ∧ (t = false → WE φ b ρ' Q)) : WE φ (.ite c a b) ρ Q := by
  unfold WE TW at *; obtain ⟨v, ρ', x, t, y, z1, z2⟩ := h
  cases t with
  | true => obtain ⟨v', ρ2, x2, q⟩ := z1 rfl; exact ⟨v', ρ2, by simp [evE, x, y, x2], q⟩
  | false => obtain ⟨v', ρ2, x2, q⟩ := z2 rfl; exact ⟨v', ρ2, by simp [evE, x, y, x2], q⟩
theorem we_sl2 {a : List E} {lo hi : E} {Q : SV → Rho → Prop} (h : WO φ a ρ fun os ρ1 => WE φ lo ρ1 fun x ρ2 => WE φ hi ρ2 fun y ρ3 => RW ρ3 os fun ds => ∃ v, pSl true true (ds ++ [x.d, y.d]) = some v ∧ Q v ρ3) : WE φ (.sl2 a lo hi) ρ Q := by
  unfold WO WE RW at *; obtain ⟨os, ρ1, h1, x, ρ2, h2, y, ρ3, h3, ds, h4, v, h5, q⟩ := h
  exact ⟨v, ρ3, by simp [evE, h1, h2, h3, h4, h5], q⟩
theorem we_popAt {i : Nat} {e : E} {Q : SV → Rho → Prop} (h0 : ownL ρ i = true) (h : WE φ e ρ fun v ρ' => XW v.d ρ' i fun t ds j => ∃ d, ds[j]? = some d ∧ Q (.dat d) (ρ'.set i (some (.own t (.list (ds.eraseIdx j)))))) : WE φ (.popAt i e) ρ Q := by
  unfold WE XW at *; obtain ⟨v, ρ', h1, k, t, ds, j, h2, h3, h4, d, h5, q⟩ := h
  exact ⟨_, _, by simp only [evE, h0, if_true, h1, Option.bind_some, h2, h3, h4, h5, Option.map_some], q⟩
/- operands -/
theorem wo_nil {Q : List Opd → Rho → Prop} (q : Q [] ρ) : WO φ [] ρ Q := by
  unfold WO; exact ⟨_, _, by simp only [evO], q⟩
theorem wo_var {i : Nat} {v : SV} {es : List E} {Q : List Opd → Rho → Prop} (h : ρ[i]? = some (some v)) (q : WO φ es ρ fun os ρ' => Q (.inl i :: os) ρ') : WO φ (.var i :: es) ρ Q := by
  unfold WO at *; obtain ⟨os, ρ', a, b⟩ := q
  exact ⟨_, _, by simp only [evO, h, a, Option.map_some], b⟩
theorem wo_cons {e : E} {es : List E} {Q : List Opd → Rho → Prop} (hv : isV e = false) (q : WE φ e ρ fun v ρ1 => WO φ es ρ1 fun os ρ' => Q (.inr v.d :: os) ρ') : WO φ (e :: es) ρ Q := by
  unfold WO WE at *; obtain ⟨v, ρ1, x, os, ρ', a, b⟩ := q
  refine ⟨_, _, ?_, b⟩
  cases e <;> first | (simp [isV] at hv; done) | simp only [evO, x, Option.bind_some, a, Option.map_some]
/- displays -/
def isStar : E → Bool
  | .star _ => true
  | _ => false
theorem wl_nil {Q : List PyData → Rho → Prop} (q : Q [] ρ) : WL φ [] ρ Q := by
  unfold WL; exact ⟨_, _, by simp only [evL], q⟩
theorem wl_star {e : E} {es : List E} {Q : List PyData → Rho → Prop} (q : WE φ e ρ fun v ρ1 => SW v.d fun xs => WL φ es ρ1 fun ds ρ' => Q (xs ++ ds) ρ') : WL φ (.star e :: es) ρ Q := by
  unfold WL WE SW at *; obtain ⟨v, ρ1, x, xs, y, os, ρ', a, b⟩ := q
  exact ⟨_, _, by simp only [evL, x, y, Option.bind_some, a, Option.map_some], b⟩
theorem wl_cons {e : E} {es : List E} {Q : List PyData → Rho → Prop} (hv : isStar e = false) (q : WE φ e ρ fun v ρ1 => WL φ es ρ1 fun ds ρ' => Q (v.d :: ds) ρ') : WL φ (e :: es) ρ Q := by
  unfold WL WE at *; obtain ⟨v, ρ1, x, os, ρ', a, b⟩ := q
  refine ⟨_, _, ?_, b⟩
  cases e <;> first | (simp [isStar] at hv; done) | simp only [evL, x, Option.bind_some, a, Option.map_some]
theorem wv_nil {Q : List SV → Rho → Prop} (q : Q [] ρ) : WV φ [] ρ Q := by
  unfold WV; exact ⟨_, _, by simp only [evV], q⟩
theorem wv_cons {e : E} {es : List E} {Q : List SV → Rho → Prop} (q : WE φ e ρ fun v ρ1 => WV φ es ρ1 fun ds ρ' => Q (v :: ds) ρ') : WV φ (e :: es) ρ Q := by
  unfold WV WE at *; obtain ⟨v, ρ1, x, os, ρ', a, b⟩ := q
  exact ⟨_, _, by simp only [evV, x, Option.bind_some, a, Option.map_some], b⟩
/- arguments -/
theorem wa_nil {mu : List Bool} {Q : List SV → Back → Rho → Prop} (q : Q [] none ρ) : WA φ [] mu ρ Q := by
  unfold WA; exact ⟨_, _, _, by simp only [evA], q⟩
theorem wa_plain {e : E} {es : List E} {Q : List SV → Back → Rho → Prop} (q : WE φ e ρ fun v ρ1 => WA φ es [] ρ1 fun as bk ρ' => Q (.dat v.d :: as) (upB bk) ρ') : WA φ (e :: es) [] ρ Q := by
  unfold WA WE at *; obtain ⟨v, ρ1, x, as, bk, ρ', a, b⟩ := q
  exact ⟨_, _, _, by simp [evA, bArg, x, a], b⟩
theorem wa_false {e : E} {es : List E} {mu : List Bool} {Q : List SV → Back → Rho → Prop} (q : WE φ e ρ fun v ρ1 => WA φ es mu ρ1 fun as bk ρ' => Q (.dat v.d :: as) (upB bk) ρ') : WA φ (e :: es) (false :: mu) ρ Q := by
  unfold WA WE at *; obtain ⟨v, ρ1, x, as, bk, ρ', a, b⟩ := q
  exact ⟨_, _, _, by simp [evA, bArg, x, a], b⟩
theorem wa_true {e : E} {es : List E} {mu : List Bool} {Q : List SV → Back → Rho → Prop} (hv : isV e = false) (q : WE φ e ρ fun v ρ1 => WA φ es mu ρ1 fun as bk ρ' => Q (v :: as) (upB bk) ρ') : WA φ (e :: es) (true :: mu) ρ Q := by
  unfold WA WE at *; obtain ⟨v, ρ1, x, as, bk, ρ', a, b⟩ := q
  refine ⟨_, _, _, ?_, b⟩
  cases e <;> first | (simp [isV] at hv; done) | (simp [evA, bArg, x, a]; done)
theorem wa_lend {i : Nat} {t : Option Nat} {d : PyData} {es : List E} {mu : List Bool} {Q : List SV → Back → Rho → Prop} (h : ρ[i]? = some (some (.own t d))) (q : WA φ es mu ρ fun as bk ρ' => bk = none ∧ DW ρ' i fun t d => Q (.own none d :: as) (some (0, i, t)) (ρ'.set i none)) : WA φ (.var i :: es) (true :: mu) ρ Q := by
  unfold WA DW at *; obtain ⟨as, bk, ρ', a, rfl, t2, d2, h2, b⟩ := q
  exact ⟨_, _, _, by simp [evA, bArg, h, a, h2], b⟩
theorem wa_dat {i : Nat} {d : PyData} {es : List E} {mu : List Bool} {Q : List SV → Back → Rho → Prop} (h : ρ[i]? = some (some (.dat d))) (q : WA φ es mu ρ fun as bk ρ' => Q (.dat d :: as) (upB bk) ρ') : WA φ (.var i :: es) (true :: mu) ρ Q := by
  unfold WA at *; obtain ⟨as, bk, ρ', a, b⟩ := q
  exact ⟨_, _, _, by simp [evA, bArg, h, a], b⟩
/- tests -/
theorem wc_none {Q : Bool → Rho → Prop} (q : Q true ρ) : WC φ none ρ Q := by
  unfold WC; exact ⟨_, _, by simp only [evC], q⟩
theorem wc_some {c : E} {Q : Bool → Rho → Prop} (q : WE φ c ρ fun v ρ' => TW v.d fun t => Q t ρ') : WC φ (some c) ρ Q := by
  unfold WC; unfold WE TW at q; obtain ⟨v, ρ', a, t, b, c⟩ := q
  exact ⟨_, _, by simp [evC, a, b], c⟩
theorem wt_of {c : E} {Q : Bool → Rho → Prop} (q : WE φ c ρ fun v ρ' => TW v.d fun t => Q t ρ') : WT φ c ρ Q := by
  unfold WT; unfold WE TW at q; obtain ⟨v, ρ', a, t, b, c⟩ := q
  exact ⟨_, _, by simp [evT, a, b], c⟩
theorem tw_bool {b : Bool} {Q : Bool → Prop} (q : Q b) : TW (.bool b) Q := by unfold TW; exact ⟨_, rfl, q⟩
theorem tw_list {xs : List PyData} {Q : Bool → Prop} (q : Q (!xs.isEmpty)) : TW (.list xs) Q := by unfold TW; exact ⟨_, rfl, q⟩
theorem tw_tuple {xs : List PyData} {Q : Bool → Prop} (q : Q (!xs.isEmpty)) : TW (.tuple xs) Q := by unfold TW; exact ⟨_, rfl, q⟩
theorem tw_int {i : Int} {Q : Bool → Prop} (q : Q (i != 0)) : TW (.int i) Q := by unfold TW; exact ⟨_, rfl, q⟩
theorem tw_none {Q : Bool → Prop} (q : Q false) : TW .none Q := by unfold TW; exact ⟨_, rfl, q⟩
/- reading -/
theorem rw_of {os : List Opd} {ds : List PyData} {Q : List PyData → Prop} (h : rdOs ρ os = some ds) (q : Q ds) : RW ρ os Q := by unfold RW; exact ⟨_, h, q⟩
theorem rw_nil {Q : List PyData → Prop} (q : Q []) : RW ρ [] Q := by unfold RW; exact ⟨_, rfl, q⟩
theorem rw_inr {d : PyData} {os : List Opd} {Q : List PyData → Prop} (q : RW ρ os fun ds => Q (d :: ds)) : RW ρ (.inr d :: os) Q := by
  unfold RW at *; obtain ⟨ds, a, b⟩ := q; exact ⟨_, by simp [rdOs, rdO, a], b⟩
theorem rw_dat {i : Nat} {d : PyData} {os : List Opd} {Q : List PyData → Prop} (h : ρ[i]? = some (some (.dat d))) (q : RW ρ os fun ds => Q (d :: ds)) : RW ρ (.inl i :: os) Q := by
  unfold RW at *; obtain ⟨ds, a, b⟩ := q; exact ⟨_, by simp [rdOs, rdO, a, h], b⟩
theorem rw_x {i : Nat} {v : SV} {os : List Opd} {Q : List PyData → Prop} (h : ρ[i]? = some (some v)) (q : RW ρ os fun ds => Q (v.d :: ds)) : RW ρ (.inl i :: os) Q := by
  unfold RW at *; obtain ⟨ds, a, b⟩ := q
  cases v with
  | dat d => exact ⟨_, by simp [rdOs, rdO, a, h], b⟩
  | own t d => exact ⟨_, by simp [rdOs, rdO, a, h], b⟩
theorem rw_own {i : Nat} {t : Option Nat} {d : PyData} {os : List Opd} {Q : List PyData → Prop} (h : ρ[i]? = some (some (.own t d))) (q : RW ρ os fun ds => Q (d :: ds)) : RW ρ (.inl i :: os) Q := by
  unfold RW at *; obtain ⟨ds, a, b⟩ := q; exact ⟨_, by simp [rdOs, rdO, a, h], b⟩
/- targets -/
theorem ts_one {i : Nat} {d : PyData} {Q : Rho → Prop} (q : Q (ρ.set i (some (.dat d)))) : TS (.name i) d ρ Q := by
  unfold TS; exact ⟨_, setT_one i d ρ, q⟩
theorem ts_two {i j : Nat} {a b : PyData} {Q : Rho → Prop} (q : Q ((ρ.set i (some (.dat a))).set j (some (.dat b)))) : TS (.tup [.name i, .name j]) (.tuple [a, b]) ρ Q := by
  unfold TS; exact ⟨_, setT_two i j a b ρ, q⟩
theorem ts_three {i j k : Nat} {a b c : PyData} {Q : Rho → Prop} (q : Q (((ρ.set i (some (.dat a))).set j (some (.dat b))).set k (some (.dat c)))) : TS (.tup [.name i, .name j, .name k]) (.tuple [a, b, c]) ρ Q := by
  unfold TS; exact ⟨_, by simp only [setT, setTs, Option.bind_some], q⟩
/- what is gone through -/
theorem wi_seq {e : E} {Q : List PyData → Rho → Prop} (h : WE φ e ρ fun v ρ' => SW v.d fun xs => Q xs ρ') : WI φ (.seq e) ρ Q := by
  unfold WI; unfold WE SW at h; obtain ⟨v, ρ', a, xs, b, c⟩ := h
  exact ⟨_, _, by simp only [evI, a, Option.bind_some, b, Option.map_some], c⟩
theorem wi_rng1 {e : E} {Q : List PyData → Rho → Prop} (h : WE φ e ρ fun v ρ' => NW v.d fun n => Q ((List.range n).map fun i : Nat => .int (i : Int)) ρ') : WI φ (.rng1 e) ρ Q := by
  unfold WI; unfold WE NW at h; obtain ⟨v, ρ', a, n, b, c, q⟩ := h
  have ok : okRg 0 (n : Int) = true := by
    have h1 : (-(2 ^ 62) : Int) ≤ (n : Int) := Int.le_trans (by decide) (Int.natCast_nonneg n)
    have h2 : (n : Int) < 2 ^ 62 := Int.lt_of_le_of_lt (b := 1000000) (by omega) (by decide)
    have h3 : ((n : Int) - 0).toNat ≤ 2 ^ 24 := Nat.le_trans (m := 1000000) (by omega) (by decide)
    unfold okRg
    rw [decide_eq_true h1, decide_eq_true h2, decide_eq_true h3]
    decide
  have e : rgD 0 (n : Int) = (List.range n).map fun i : Nat => .int (i : Int) := by unfold rgD; simp
  exact ⟨_, _, ev_rng1 a b ok, by rw [e]; exact q⟩
theorem wi_enum {e : E} {Q : List PyData → Rho → Prop} (h : WE φ e ρ fun v ρ' => SW v.d fun xs => Q (enumD 0 xs) ρ') : WI φ (.enum e) ρ Q := by
  unfold WI; unfold WE SW at h; obtain ⟨v, ρ', a, xs, b, c⟩ := h
  exact ⟨_, _, by simp only [evI, a, Option.bind_some, b, Option.map_some], c⟩
theorem wi_zip {a b : E} {Q : List PyData → Rho → Prop} (h : WE φ a ρ fun v ρ1 => WE φ b ρ1 fun u ρ' => SW v.d fun xs => SW u.d fun ys => Q (zipD xs ys) ρ') : WI φ (.zip a b) ρ Q := by
  unfold WI; unfold WE SW at h; obtain ⟨v, ρ1, x, u, ρ', y, xs, z1, ys, z2, q⟩ := h
  exact ⟨_, _, by simp only [evI, x, y, Option.bind_some, z1, z2, Option.map_some], q⟩
/-- a comprehension that leaves all else as it is -/
theorem we_lc {α : Type} {elt : E} {tg : T} {it : It} {vs : List Nat} {Q : SV → Rho → Prop} (l : List α) (ι g : α → PyData)
    (h : WI φ it ρ fun items ρ1 => items = l.map ι ∧ (∀ a ∈ l, TS tg (ι a) (wipeR ρ1 vs) fun r2 => WE φ elt r2 fun v r3 => v.d = g a ∧ wipeR r3 vs = wipeR ρ1 vs) ∧ Q (.own none (.list (l.map g))) ρ1) : WE φ (.lc elt tg it none vs) ρ Q := by
  unfold WI TS WE at h; unfold WE
  obtain ⟨items, ρ1, a, rfl, b, q⟩ := h
  refine ⟨_, _, ev_lcN l ι g a fun x hx => ?_, q⟩
  obtain ⟨r2, c1, v, r3, c2, c3, c4⟩ := b x hx
  simp only [c1, Option.bind_some, c2, Option.map_some, c3, c4]
theorem we_lcif {α : Type} {elt : E} {tg : T} {it : It} {c : E} {vs : List Nat} {Q : SV → Rho → Prop} (l : List α) (ι : α → PyData) (p : α → Bool) (g : α → PyData)
    (h : WI φ it ρ fun items ρ1 => items = l.map ι ∧ (∀ a ∈ l, TS tg (ι a) (wipeR ρ1 vs) fun r2 => WT φ c r2 fun t r3 => t = p a ∧ (p a = false → wipeR r3 vs = wipeR ρ1 vs) ∧ (p a = true → WE φ elt r3 fun v r4 => v.d = g a ∧ wipeR r4 vs = wipeR ρ1 vs)) ∧ Q (.own none (.list ((l.filter p).map g))) ρ1) : WE φ (.lc elt tg it (some c) vs) ρ Q := by
  unfold WI TS WT WE at h; unfold WE
  obtain ⟨items, ρ1, a, rfl, b, q⟩ := h
  refine ⟨_, _, ev_lcF l ι p g a fun x hx => ?_, q⟩
  obtain ⟨r2, c1, t, r3, c2, rfl, c4, c5⟩ := b x hx
  refine ⟨r3, ?_, c4, fun hp => ?_⟩
  · simp only [c1, Option.bind_some, evC]
    simp only [evT] at c2; exact c2
  · obtain ⟨v, r4, d1, d2, d3⟩ := c5 hp
    exact ⟨v, r4, d1, d2, d3⟩
/-- a comprehension whose parts change what is around -/
theorem loopLc_inv {α : Type} {F : PyData → Rho → Option (Option PyData × Rho)} {vs : List Nat} (ι : α → PyData) (I : List α → List PyData → Rho → Prop) (whole : List α)
    (h : ∀ (don : List α) (a : α) (rest : List α) (acc : List PyData) (r : Rho), whole = don ++ a :: rest → I don acc r → ∃ o r', F (ι a) (wipeR r vs) = some (o, r') ∧ I (don ++ [a]) (match o with | some y => acc ++ [y] | none => acc) r') :
    ∀ (rest don : List α) (acc : List PyData) (r : Rho), whole = don ++ rest → I don acc r → ∃ acc' r', loopLc F vs (rest.map ι) acc r = some (acc', r') ∧ I whole acc' r'
  | [], don, acc, r, e, i => ⟨acc, r, rfl, by rw [e, List.append_nil]; exact i⟩
  | a :: rest, don, acc, r, e, i => by
    obtain ⟨o, r1, h1, h2⟩ := h don a rest acc r e i
    obtain ⟨acc', r', h3, h4⟩ := loopLc_inv ι I whole h rest (don ++ [a]) _ r1 (by rw [e]; simp) h2
    exact ⟨acc', r', by simp only [List.map_cons, loopLc, h1, Option.bind_some]; exact h3, h4⟩
theorem we_lcI {α : Type} {elt : E} {tg : T} {it : It} {vs : List Nat} {Q : SV → Rho → Prop} (l : List α) (ι : α → PyData) (I : List α → List PyData → Rho → Prop)
    (h : WI φ it ρ fun items ρ1 => items = l.map ι ∧ I [] [] ρ1 ∧ (∀ don a rest acc r, l = don ++ a :: rest → I don acc r → TS tg (ι a) (wipeR r vs) fun r2 => WE φ elt r2 fun v r3 => I (don ++ [a]) (acc ++ [v.d]) r3) ∧ ∀ acc r, I l acc r → Q (.own none (.list acc)) (restR ρ1 r vs)) : WE φ (.lc elt tg it none vs) ρ Q := by
  unfold WI TS WE at h; unfold WE
  obtain ⟨items, ρ1, a, rfl, i, b, q⟩ := h
  obtain ⟨acc', r', e1, e2⟩ := loopLc_inv (F := fun x r1 => (setT tg x r1).bind fun r2 => (evC φ none r2).bind fun q => if q.1 = true then (evE φ elt q.2).map fun y => (some y.1.d, y.2) else some (none, q.2)) (vs := vs) ι I l (fun don a rest acc r e i => by
    obtain ⟨r2, c1, v, r3, c2, c3⟩ := b don a rest acc r e i
    exact ⟨some v.d, r3, by simp [c1, evC, c2], c3⟩) l [] [] ρ1 rfl i
  exact ⟨_, _, by simp only [evE, a, Option.bind_some, e1, Option.map_some], q acc' r' e2⟩
theorem we_lcifI {α : Type} {elt : E} {tg : T} {it : It} {c : E} {vs : List Nat} {Q : SV → Rho → Prop} (l : List α) (ι : α → PyData) (I : List α → List PyData → Rho → Prop)
    (h : WI φ it ρ fun items ρ1 => items = l.map ι ∧ I [] [] ρ1 ∧ (∀ don a rest acc r, l = don ++ a :: rest → I don acc r → TS tg (ι a) (wipeR r vs) fun r2 => WT φ c r2 fun t r3 => (t = false → I (don ++ [a]) acc r3) ∧ (t = true → WE φ elt r3 fun v r4 => I (don ++ [a]) (acc ++ [v.d]) r4)) ∧ ∀ acc r, I l acc r → Q (.own none (.list acc)) (restR ρ1 r vs)) : WE φ (.lc elt tg it (some c) vs) ρ Q := by
  unfold WI TS WT WE at h; unfold WE
  obtain ⟨items, ρ1, a, rfl, i, b, q⟩ := h
  obtain ⟨acc', r', e1, e2⟩ := loopLc_inv (F := fun x r1 => (setT tg x r1).bind fun r2 => (evC φ (some c) r2).bind fun q => if q.1 = true then (evE φ elt q.2).map fun y => (some y.1.d, y.2) else some (none, q.2)) (vs := vs) ι I l (fun don a rest acc r e i => by
    obtain ⟨r2, c1, t, r3, c2, c3, c4⟩ := b don a rest acc r e i
    have c2' : evC φ (some c) r2 = some (t, r3) := by simp only [evC]; simp only [evT] at c2; exact c2
    cases t with
    | false => exact ⟨none, r3, by simp [c1, c2'], c3 rfl⟩
    | true =>
      obtain ⟨v, r4, d1, d2⟩ := c4 rfl
      exact ⟨some v.d, r4, by simp [c1, c2', d1], d2⟩) l [] [] ρ1 rfl i
  exact ⟨_, _, by simp only [evE, a, Option.bind_some, e1, Option.map_some], q acc' r' e2⟩
/- statements -/
theorem wss_nil {Q : Fl → Rho → Prop} (q : Q .nx ρ) : WSs φ [] ρ Q := by
  unfold WSs; exact ⟨_, _, by simp only [evSs], q⟩
theorem wss_cons {s : S} {ss : List S} {Q : Fl → Rho → Prop} (h : WS φ s ρ fun f ρ' => (f = .nx → WSs φ ss ρ' Q) ∧ (f ≠ .nx → Q f ρ')) : WSs φ (s :: ss) ρ Q := by
  unfold WS WSs at *; obtain ⟨f, ρ', a, b, c⟩ := h
  cases f with
  | nx => obtain ⟨g, r, x, q⟩ := b rfl; exact ⟨g, r, by simp only [evSs, a, Option.bind_some, x], q⟩
  | ret v => exact ⟨_, _, by simp only [evSs, a, Option.bind_some], c (fun z => nomatch z)⟩
  | brk => exact ⟨_, _, by simp only [evSs, a, Option.bind_some], c (fun z => nomatch z)⟩
  | cont => exact ⟨_, _, by simp only [evSs, a, Option.bind_some], c (fun z => nomatch z)⟩
/-- one that goes on -/
theorem wss_go {s : S} {ss : List S} {Q : Fl → Rho → Prop} (h : WS φ s ρ fun f ρ' => f = .nx ∧ WSs φ ss ρ' Q) : WSs φ (s :: ss) ρ Q :=
  wss_cons (ws_mono h fun f r z => ⟨fun _ => z.2, fun n => absurd z.1 n⟩)
theorem wss_end {s : S} {ss : List S} {Q : Fl → Rho → Prop} (h : WS φ s ρ fun f ρ' => f ≠ .nx ∧ Q f ρ') : WSs φ (s :: ss) ρ Q :=
  wss_cons (ws_mono h fun f r z => ⟨fun n => absurd n z.1, fun _ => z.2⟩)
theorem wss_asg {i : Nat} {e : E} {ss : List S} {Q : Fl → Rho → Prop} (h : WE φ e ρ fun v ρ' => WSs φ ss (ρ'.set i (some (setV v))) Q) : WSs φ (.asg i e :: ss) ρ Q := by
  refine wss_go ?_
  unfold WS; unfold WE at h; obtain ⟨v, ρ', a, b⟩ := h
  exact ⟨_, _, by simp only [evS, a, Option.map_some], rfl, b⟩
theorem wss_pasg {is : List Nat} {es : List E} {ss : List S} {Q : Fl → Rho → Prop} (h : WV φ es ρ fun vs ρ' => ∃ r, setVs is vs ρ' = some r ∧ WSs φ ss r Q) : WSs φ (.pasg is es :: ss) ρ Q := by
  refine wss_go ?_
  unfold WS; unfold WV at h; obtain ⟨v, ρ', a, r, b, c⟩ := h
  exact ⟨_, _, by simp only [evS, a, Option.bind_some, b, Option.map_some], rfl, c⟩
theorem wss_uasg {ts : List T} {e : E} {ss : List S} {Q : Fl → Rho → Prop} (h : WE φ e ρ fun v ρ' => TS (.tup ts) v.d ρ' fun r => WSs φ ss r Q) : WSs φ (.uasg ts e :: ss) ρ Q := by
  refine wss_go ?_
  unfold WS; unfold WE TS at h; obtain ⟨v, ρ', a, r, b, c⟩ := h
  exact ⟨_, _, by simp only [evS, a, Option.bind_some, b, Option.map_some], rfl, c⟩
theorem wss_seti {i : Nat} {ix e : E} {ss : List S} {Q : Fl → Rho → Prop} (h : WE φ e ρ fun v ρ' => ownL ρ' i = true ∧ WE φ ix ρ' fun u ρ2 => XW u.d ρ2 i fun t ds j => WSs φ ss (ρ2.set i (some (.own t (.list (ds.set j v.d))))) Q) : WSs φ (.seti i ix e :: ss) ρ Q := by
  refine wss_go ?_
  unfold WS; unfold WE XW at h; obtain ⟨v, ρ', a, b, u, ρ2, c, k, t, ds, j, d1, d2, d3, q⟩ := h
  exact ⟨_, _, by simp only [evS, a, Option.bind_some, b, if_true, c, d1, d2, d3, Option.map_some], rfl, q⟩
theorem wss_app {i : Nat} {e : E} {ss : List S} {Q : Fl → Rho → Prop} (h0 : ownL ρ i = true) (h : WE φ e ρ fun v ρ' => OW ρ' i fun t ds => LW ds.length (WSs φ ss (ρ'.set i (some (.own t (.list (ds ++ [v.d]))))) Q)) : WSs φ (.app i e :: ss) ρ Q := by
  refine wss_go ?_
  unfold WS; unfold WE OW LW at h; obtain ⟨v, ρ', a, t, ds, d1, d2, q⟩ := h
  exact ⟨_, _, by simp only [evS, h0, if_true, a, Option.bind_some, d1]; exact if_pos (Nat.lt_of_le_of_lt d2 (by decide)), rfl, q⟩
theorem wss_expr {e : E} {ss : List S} {Q : Fl → Rho → Prop} (h : WE φ e ρ fun v ρ' => WSs φ ss ρ' Q) : WSs φ (.expr e :: ss) ρ Q := by
  refine wss_go ?_
  unfold WS; unfold WE at h; obtain ⟨v, ρ', a, q⟩ := h
  exact ⟨_, _, by simp only [evS, a, Option.map_some], rfl, q⟩
theorem wss_append {a b : List S} {Q : Fl → Rho → Prop} (h : WSs φ a ρ fun f r => (f = .nx → WSs φ b r Q) ∧ (f ≠ .nx → Q f r)) : ∃ v ρ', ((evSs φ a ρ).bind fun p => match p.1 with | .nx => evSs φ b p.2 | f => some (f, p.2)) = some (v, ρ') ∧ Q v ρ' := by
  unfold WSs at h; obtain ⟨f, r, x, y, z⟩ := h
  cases f with
  | nx => obtain ⟨g, r2, k, q⟩ := y rfl; exact ⟨g, r2, by simp only [x, Option.bind_some, k], q⟩
  | ret v => exact ⟨_, _, by simp only [x, Option.bind_some], z (fun z => nomatch z)⟩
  | brk => exact ⟨_, _, by simp only [x, Option.bind_some], z (fun z => nomatch z)⟩
  | cont => exact ⟨_, _, by simp only [x, Option.bind_some], z (fun z => nomatch z)⟩
/-- if: both ways with what follows -/
theorem wss_ite {c : E} {a b ss : List S} {Q : Fl → Rho → Prop} (h : WE φ c ρ fun v ρ' => TW v.d fun t => (t = true → WSs φ a ρ' fun f r => (f = .nx → WSs φ ss r Q) ∧ (f ≠ .nx → Q f r)) ∧ (t = false → WSs φ b ρ' fun f r => (f = .nx → WSs φ ss r Q) ∧ (f ≠ .nx → Q f r))) : WSs φ (.ite c a b :: ss) ρ Q := by
  have h := wt_of (Q := fun t ρ' => (t = true → WSs φ a ρ' fun f r => (f = .nx → WSs φ ss r Q) ∧ (f ≠ .nx → Q f r)) ∧ (t = false → WSs φ b ρ' fun f r => (f = .nx → WSs φ ss r Q) ∧ (f ≠ .nx → Q f r))) h
  unfold WT at h; obtain ⟨t, ρ', x, y, z⟩ := h
  cases t with
  | true =>
    obtain ⟨v, r, k, q⟩ := wss_append (y rfl)
    unfold WSs
    exact ⟨v, r, by simp only [evSs, evS, x, Option.bind_some, if_true]; exact k, q⟩
  | false =>
    obtain ⟨v, r, k, q⟩ := wss_append (z rfl)
    unfold WSs
    exact ⟨v, r, by simp only [evSs, evS, x, Option.bind_some, Bool.false_eq_true, if_false]; exact k, q⟩
theorem wss_retd {i : Nat} {d : PyData} {ss : List S} {Q : Fl → Rho → Prop} (h : ρ[i]? = some (some (.dat d))) (q : Q (.ret (.dat d)) ρ) : WSs φ (.ret (.var i) :: ss) ρ Q := by
  refine wss_end ?_
  unfold WS; refine ⟨_, _, by simp only [evS, h], ?_, q⟩; intro z; cases z
theorem wss_reto {i : Nat} {t : Option Nat} {d : PyData} {ss : List S} {Q : Fl → Rho → Prop} (h : ρ[i]? = some (some (.own t d))) (q : Q (.ret (.own none d)) (ρ.set i none)) : WSs φ (.ret (.var i) :: ss) ρ Q := by
  refine wss_end ?_
  unfold WS; refine ⟨_, _, by simp only [evS, h], ?_, q⟩; intro z; cases z
theorem wss_retx {i : Nat} {v : SV} {ss : List S} {Q : Fl → Rho → Prop} (h : ρ[i]? = some (some v)) (q : ∀ w r, w.d = v.d → Q (.ret w) r) : WSs φ (.ret (.var i) :: ss) ρ Q := by
  cases v with
  | dat d => exact wss_retd h (q _ _ rfl)
  | own t d => exact wss_reto h (q _ _ rfl)
theorem wss_ret {e : E} {ss : List S} {Q : Fl → Rho → Prop} (hv : isV e = false) (h : WE φ e ρ fun v ρ' => Q (.ret v) ρ') : WSs φ (.ret e :: ss) ρ Q := by
  refine wss_end ?_
  unfold WS; unfold WE at h; obtain ⟨v, ρ', a, q⟩ := h
  refine ⟨.ret v, ρ', ?_, (by intro z; cases z), q⟩
  cases e <;> first | (simp [isV] at hv; done) | simp only [evS, a, Option.map_some]
theorem wss_retN {ss : List S} {Q : Fl → Rho → Prop} (q : Q (.ret (.dat .none)) ρ) : WSs φ (.retN :: ss) ρ Q := by
  refine wss_end ?_
  unfold WS; refine ⟨_, _, by simp only [evS], ?_, q⟩; intro z; cases z
/-- for, by an invariant -/
theorem wss_for {α : Type} {tg : T} {it : It} {body ss : List S} {Q : Fl → Rho → Prop} (l : List α) (ι : α → PyData) (I : List α → Rho → Prop)
    (h : WI φ it ρ fun items ρ1 => items = l.map ι ∧ I [] ρ1 ∧ (∀ don a rest r, l = don ++ a :: rest → I don r → TS tg (ι a) r fun r2 => WSs φ body r2 fun f r3 => f = .nx ∧ I (don ++ [a]) r3) ∧ ∀ r, I l r → WSs φ ss r Q) : WSs φ (.forS tg it body :: ss) ρ Q := by
  refine wss_go ?_
  unfold WI TS at h; obtain ⟨items, ρ1, a, rfl, i, b, q⟩ := h
  obtain ⟨ρ', e1, e2⟩ := loopFor_M0 (F := fun x r1 => (setT tg x r1).bind fun r2 => evSs φ body r2) l ι I i fun don a rest r e i => by
    obtain ⟨r2, c1, c2⟩ := b don a rest r e i
    unfold WSs at c2
    obtain ⟨f, r3, c2, rfl, c3⟩ := c2
    exact ⟨r3, by simp only [c1, Option.bind_some, c2], c3⟩
  unfold WS
  exact ⟨_, _, evS_for a e1, rfl, q ρ' e2⟩
/-- while, by an invariant and a measure -/
theorem wss_while {c : E} {body ss : List S} {Q : Fl → Rho → Prop} (I : Nat → Rho → Prop) (n : Nat) (hn : n < 1000000) (i : I n ρ)
    (h : ∀ m r, I m r → WT φ c r fun t r1 => (t = false → WSs φ ss r1 Q) ∧ (t = true → WSs φ body r1 fun f r2 => f = .nx ∧ ∃ m', m' < m ∧ I m' r2)) : WSs φ (.whileS c body :: ss) ρ Q := by
  refine wss_go ?_
  obtain ⟨ρ', e1, e2⟩ := loopWh_inv (c := fun r1 => evT φ c r1) (f := fun r1 => evSs φ body r1) I (fun r => WSs φ ss r Q) (fun m r i => by
    have := h m r i
    unfold WT at this
    obtain ⟨t, r1, a, b, d⟩ := this
    cases t with
    | false => exact .inl ⟨r1, a, b rfl⟩
    | true =>
      have := d rfl
      unfold WSs at this
      obtain ⟨f, r2, x, rfl, m', y, z⟩ := this
      exact .inr ⟨r1, r2, m', a, x, y, z⟩) n ρ wfuel i hn
  unfold WS
  exact ⟨_, _, evS_while e1, rfl, e2⟩
end rules
/- a def -/
theorem wr_of {φ : Fn} {c : FnD} {as : List SV} {Q : SV → Rho → Prop} (hl : as.length = c.np) (h : WSs φ c.body (tagA 0 as ++ List.replicate (c.nv - c.np) none) (EndQ Q)) : WR φ c as Q := by
  unfold WSs EndQ at h; unfold WR; obtain ⟨f, r, a, b⟩ := h
  cases f with
  | ret v => exact ⟨v, r, by simp only [runFn, hl, if_true, a, Option.bind_some], b⟩
  | nx => exact ⟨_, r, by simp only [runFn, hl, if_true, a, Option.bind_some], b⟩
  | brk => exact b.elim
  | cont => exact b.elim
theorem wf_phi {pg : List (Str × FnD)} {n : Nat} {f : Str} {c : FnD} {as : List SV} {Q : SV → Rho → Prop} (h : pg.lookup f = some c) (q : WR (phi pg n) c as Q) : WF (phi pg (n + 1)) f as Q := by
  unfold WR at q; unfold WF; obtain ⟨r, o, a, b⟩ := q
  exact ⟨r, o, by simp only [phi, h, Option.bind_some, a], b⟩
/- prims -/
section prims
variable {Q : SV → Prop}
theorem pw_of {p : Pr} {ds : List PyData} {v : SV} (h : prim p ds = some v) (q : Q v) : PW p ds Q := by unfold PW; exact ⟨v, h, q⟩
theorem pw_add {i j : Int} (q : Q (.dat (.int (i + j)))) : PW .add [.int i, .int j] Q := pw_of rfl q
theorem pw_addL {a b : List PyData} (h : a.length + b.length ≤ 1000000) (q : Q (.own none (.list (a ++ b)))) : PW .add [.list a, .list b] Q := pw_of (if_pos (Nat.le_trans h (by decide))) q
theorem pw_addT {a b : List PyData} (h : a.length + b.length ≤ 1000000) (q : Q (.dat (.tuple (a ++ b)))) : PW .add [.tuple a, .tuple b] Q := pw_of (if_pos (Nat.le_trans h (by decide))) q
theorem pw_sub {i j : Int} (q : Q (.dat (.int (i - j)))) : PW .sub [.int i, .int j] Q := pw_of rfl q
theorem pw_mul {i j : Int} (h : okMul i j = true) (q : Q (.dat (.int (i * j)))) : PW .mul [.int i, .int j] Q := pw_of (if_pos h) q
theorem pw_mulL {a : List PyData} {k : Nat} (h1 : k ≤ 1000) (h2 : a.length ≤ 1000) (q : Q (.own none (.list (List.replicate k a).flatten))) : PW .mul [.list a, .int (k : Int)] Q := by
  refine pw_of (v := .own none (.list (List.replicate ((k : Int).toNat) a).flatten)) (if_pos ⟨by omega, by omega, h2⟩) q
theorem pw_mod {i j : Int} (h : 0 < j) (q : Q (.dat (.int (i % j)))) : PW .mod [.int i, .int j] Q := pw_of (if_pos h) q
theorem pw_fdiv {i j : Int} (h : 0 < j) (h2 : j < 1073741824) (q : Q (.dat (.int (i / j)))) : PW .fdiv [.int i, .int j] Q := pw_of (if_pos ⟨h, h2⟩) q
theorem pw_neg {i : Int} (q : Q (.dat (.int (-i)))) : PW .neg [.int i] Q := pw_of rfl q
theorem pw_lt {i j : Int} (q : Q (.dat (.bool (decide (i < j))))) : PW .lt [.int i, .int j] Q := pw_of rfl q
theorem pw_le {i j : Int} (q : Q (.dat (.bool (decide (i ≤ j))))) : PW .le [.int i, .int j] Q := pw_of rfl q
theorem pw_gt {i j : Int} (q : Q (.dat (.bool (decide (j < i))))) : PW .gt [.int i, .int j] Q := pw_of rfl q
theorem pw_ge {i j : Int} (q : Q (.dat (.bool (decide (j ≤ i))))) : PW .ge [.int i, .int j] Q := pw_of rfl q
theorem pw_eq {a b : PyData} {t : Bool} (h1 : SeqAt.shaped a = true) (h2 : SeqAt.shaped b = true) (h3 : PyData.eqv a b = t) (q : Q (.dat (.bool t))) : PW .eq [a, b] Q := by
  refine pw_of (v := .dat (.bool t)) ?_ q
  have e : prim .eq [a, b] = if SeqAt.shaped a && SeqAt.shaped b then dbl (PyData.eqv a b) else none := rfl
  rw [e, h1, h2, h3]; rfl
theorem pw_ne {a b : PyData} {t : Bool} (h1 : SeqAt.shaped a = true) (h2 : SeqAt.shaped b = true) (h3 : PyData.eqv a b = t) (q : Q (.dat (.bool (!t)))) : PW .ne [a, b] Q := by
  refine pw_of (v := .dat (.bool (!t))) ?_ q
  have e : prim .ne [a, b] = if SeqAt.shaped a && SeqAt.shaped b then dbl (!PyData.eqv a b) else none := rfl
  rw [e, h1, h2, h3]; rfl
theorem pw_isnone {d : PyData} (q : Q (.dat (.bool (isNoneD d)))) : PW .isnone [d] Q := pw_of rfl q
theorem pw_notnone {d : PyData} (q : Q (.dat (.bool (!isNoneD d)))) : PW .notnone [d] Q := pw_of rfl q
theorem pw_len {d : PyData} {xs : List PyData} (h : seqOf d = some xs) (q : Q (.dat (.int xs.length))) : PW .len [d] Q := pw_of (pr_len h) q
theorem pw_tuple {d : PyData} {xs : List PyData} (h : seqOf d = some xs) (q : Q (.dat (.tuple xs))) : PW .tuple [d] Q := pw_of (pr_tuple h) q
theorem pw_list {d : PyData} {xs : List PyData} (h : seqOf d = some xs) (q : Q (.own none (.list xs))) : PW .list [d] Q := pw_of (by simp [prim, p1, h, dls]) q
theorem pw_idx {d : PyData} {xs : List PyData} {i : Nat} {y : PyData} (h : seqOf d = some xs) (h2 : xs[i]? = some y) (q : Q (.dat y)) : PW .idx [d, .int (i : Int)] Q := pw_of (by rw [pr_idx h, atD_nat h2]; rfl) q
theorem pw_idxc {d : PyData} {xs : List PyData} {i : Int} {y : PyData} (h : seqOf d = some xs) (h2 : atD xs i = some y) (q : Q (.dat y)) : PW .idx [d, .int i] Q := pw_of (by rw [pr_idx h, h2]; rfl) q
theorem pw_mulr {i j : Int} (h1 : -1000000000000 ≤ j) (h2 : j ≤ 1000000000000) (q : Q (.dat (.int (i * j)))) : PW .mul [.int i, .int j] Q := pw_mul (okMul_of (Int.lt_of_lt_of_le (by decide) h1) (Int.lt_of_le_of_lt h2 (by decide))) q
theorem pw_mull {i j : Int} (h1 : -1000000000000 ≤ i) (h2 : i ≤ 1000000000000) (q : Q (.dat (.int (i * j)))) : PW .mul [.int i, .int j] Q := by
  have a : -(2 ^ 64) < i := Int.lt_of_lt_of_le (by decide) h1
  have b : i < 2 ^ 64 := Int.lt_of_le_of_lt h2 (by decide)
  refine pw_mul ?_ q
  unfold okMul
  rw [decide_eq_true a, decide_eq_true b]
  rfl
theorem pw_int {i : Int} (q : Q (.dat (.int i))) : PW .int [.int i] Q := pw_of rfl q
theorem pw_intb {b : Bool} (q : Q (.dat (.int (if b then 1 else 0)))) : PW .int [.bool b] Q := pw_of rfl q
theorem pw_abs {i : Int} (q : Q (.dat (.int (if i < 0 then -i else i)))) : PW .abs [.int i] Q := pw_of rfl q
theorem pw_min2 {i j : Int} (q : Q (.dat (.int (if j < i then j else i)))) : PW .min2 [.int i, .int j] Q := pw_of rfl q
theorem pw_all {α : Type} {l : List α} {f : α → Bool} (q : Q (.dat (.bool (l.all f)))) : PW .all [.list (l.map fun a => .bool (f a))] Q := by
  have b : ∀ l : List α, boolsD (l.map fun a => .bool (f a)) = some (l.map f) := fun l => by
    induction l with
    | nil => rfl
    | cons a l ih => simp only [List.map_cons, boolsD, ih, Option.map_some]
  refine pw_of (v := .dat (.bool (l.all f))) ?_ q
  simp only [prim, p1, pL1, b, Option.bind_some, dbl]
  simp [Function.comp_def]
theorem pw_isi {ks : List Kd} {d : PyData} (h : noDict d = true) (q : Q (.dat (.bool (ks.any fun k => kindIs k d)))) : PW (.isi ks) [d] Q := pw_of (by simp only [prim, p1, h, if_true, dbl]) q
theorem pw_slh {d : PyData} {xs : List PyData} {k : Nat} (h : d = .list xs) (q : Q (.own none (.list (xs.take k)))) : PW (.sl false true) [d, .int (k : Int)] Q := by
  subst h
  refine pw_of (v := .own none (.list (xs.take k))) ?_ q
  have e : sIxD xs.length xs.length (some (k : Int)) = min k xs.length := by simp only [sIxD]; rw [if_neg (by omega)]; simp
  simp [prim, pSl, slParts, cutD, e, sIxD, dls]
  rw [if_neg (by omega)]; omega
end prims
end LI

set_option Elab.async false
set_option linter.all false
set_option autoImplicit false
set_option maxRecDepth 100000
set_option maxHeartbeats 4000000
namespace K10
open PySem LI
/-! ### what is said of a def -/
def Rets (φ : Fn) (f : Str) (as : List SV) (d : PyData) : Prop := (φ f as).map (fun q => q.1.d) = some d
/-- a def's answer, from its run -/
def Runs (φ : Fn) (c : FnD) (as : List SV) (d : PyData) : Prop := (runFn φ c as).map (fun q => q.1.d) = some d
theorem Rets.ex {φ : Fn} {f : Str} {as : List SV} {d : PyData} (h : Rets φ f as d) : ∃ r outs, φ f as = some (r, outs) ∧ r.d = d := by
  obtain ⟨⟨r, o⟩, h1, h2⟩ := Option.map_eq_some_iff.mp h
  exact ⟨r, o, h1, h2⟩
theorem runs_of {φ : Fn} {c : FnD} {as : List SV} {v : SV} {ρ' : Rho} (hl : as.length = c.np) (h : evSs φ c.body (tagA 0 as ++ List.replicate (c.nv - c.np) none) = some (.ret v, ρ')) : Runs φ c as v.d := by
  simp only [Runs, runFn, hl, if_true, h, Option.bind_some, Option.map_some]
abbrev ic (x : Nat) : PyData := .int (x : Int)
abbrev rowD (xs : List Nat) : PyData := .tuple (xs.map ic)
abbrev boxD (b : List (List Nat)) : PyData := .tuple (b.map rowD)
def Row (d : PyData) (xs : List Nat) : Prop := seqOf d = some (xs.map ic)
inductive All2 {α β : Type} (R : α → β → Prop) : List α → List β → Prop
  | nil : All2 R [] []
  | cons {a : α} {b : β} {l : List α} {m : List β} : R a b → All2 R l m → All2 R (a :: l) (b :: m)
theorem All2.length {α β : Type} {R : α → β → Prop} {l : List α} {m : List β} (h : All2 R l m) : l.length = m.length := by
  induction h with
  | nil => rfl
  | cons _ _ ih => simp [ih]
theorem All2.get {α β : Type} {R : α → β → Prop} {l : List α} {m : List β} (h : All2 R l m) : ∀ {i : Nat} {b : β}, m[i]? = some b → ∃ a, l[i]? = some a ∧ R a b := by
  induction h with
  | nil => intro i b h; simp at h
  | cons r _ ih =>
    intro i b h
    cases i with
    | zero => simp at h; subst h; exact ⟨_, rfl, r⟩
    | succ i => obtain ⟨a, h1, h2⟩ := ih (by simpa using h); exact ⟨a, by simpa using h1, h2⟩
/-- as the image of a list of pairs -/
theorem All2.zip {α β : Type} {R : α → β → Prop} {l : List α} {m : List β} (h : All2 R l m) : ∃ z : List (α × β), l = z.map (·.1) ∧ m = z.map (·.2) ∧ ∀ p ∈ z, R p.1 p.2 := by
  induction h with
  | nil => exact ⟨[], rfl, rfl, fun p h => nomatch h⟩
  | @cons a b l m r _ ih =>
    obtain ⟨z, h1, h2, h3⟩ := ih
    refine ⟨(a, b) :: z, by rw [h1]; rfl, by rw [h2]; rfl, fun p hp => ?_⟩
    rcases List.mem_cons.mp hp with rfl | hp
    · exact r
    · exact h3 p hp
def BoxR (d : PyData) (b : List (List Nat)) : Prop := ∃ ds, seqOf d = some ds ∧ All2 Row ds b
structure Fd where
  n : Nat
  eyes : List Nat
  tab : List Nat
def FdR (d : PyData) (f : Fd) : Prop := ∃ v e t vs, seqOf d = some [v, e, t] ∧ seqOf v = some vs ∧ vs.length = f.n ∧ Row e f.eyes ∧ Row t f.tab
def HouseR (d : PyData) (h : List Fd) : Prop := ∃ ds, seqOf d = some ds ∧ All2 FdR ds h
theorem row_seq (xs : List Nat) : Row (rowD xs) xs := rfl
theorem box_seq (b : List (List Nat)) : BoxR (boxD b) b := by
  refine ⟨_, rfl, ?_⟩
  induction b with
  | nil => exact .nil
  | cons x r ih => exact .cons (row_seq x) ih
def szAt (h : List Fd) (p : Nat) : Nat := ((h[p]?).map Fd.n).getD 0
/-! ### small steps -/
theorem ev_call {φ : Fn} {f : Str} {cs : List E} {ρ ρ' : Rho} {as : List SV} {r : SV} {outs : Rho} (h : evA φ cs [] ρ = some (as, none, ρ')) (e : φ f as = some (r, outs)) : evE φ (.call f [] [] cs) ρ = some (r, ρ') := by
  simp [evE, h, perm, e, giveB]
theorem intsD_row (xs : List Nat) : intsD (xs.map ic) = some (xs.map fun (x : Nat) => (x : Int)) := by
  induction xs with
  | nil => rfl
  | cons x r ih => simp only [List.map_cons, intsD, ih, Option.map_some]
theorem Row.idx {d : PyData} {xs : List Nat} {i x : Nat} (h : Row d xs) (e : xs[i]? = some x) : prim .idx [d, .int (i : Int)] = some (.dat (ic x)) := by
  rw [pr_idx h, atD_nat (d := ic x) (by rw [List.getElem?_map, e]; rfl)]; rfl
theorem Row.idx0 {d : PyData} {x : Nat} {r : List Nat} (h : Row d (x :: r)) : prim .idx [d, .int 0] = some (.dat (ic x)) := h.idx (i := 0) rfl
theorem BoxR.idx {d : PyData} {b : List (List Nat)} {i : Nat} {xs : List Nat} (h : BoxR d b) (e : b[i]? = some xs) : ∃ r, prim .idx [d, .int (i : Int)] = some (.dat r) ∧ Row r xs := by
  obtain ⟨ds, h1, h2⟩ := h
  obtain ⟨r, h3, h4⟩ := h2.get e
  exact ⟨r, by rw [pr_idx h1, atD_nat h3]; rfl, h4⟩
theorem HouseR.idx {d : PyData} {h : List Fd} {i : Nat} {f : Fd} (H : HouseR d h) (e : h[i]? = some f) : ∃ r, prim .idx [d, .int (i : Int)] = some (.dat r) ∧ FdR r f := by
  obtain ⟨ds, h1, h2⟩ := H
  obtain ⟨r, h3, h4⟩ := h2.get e
  exact ⟨r, by rw [pr_idx h1, atD_nat h3]; rfl, h4⟩
theorem FdR.parts {d : PyData} {f : Fd} (H : FdR d f) : ∃ v e t, prim .idx [d, .int 0] = some (.dat v) ∧ prim .idx [d, .int 1] = some (.dat e) ∧ prim .idx [d, .int 2] = some (.dat t) ∧ prim .len [v] = some (.dat (ic f.n)) ∧ Row e f.eyes ∧ Row t f.tab := by
  obtain ⟨v, e, t, vs, h1, h2, h3, h4, h5⟩ := H
  exact ⟨v, e, t, by rw [pr_idx h1]; rfl, by rw [pr_idx h1]; rfl, by rw [pr_idx h1]; rfl, by rw [pr_len h2, h3], h4, h5⟩
theorem run_sizes {φ : Fn} {hd pd : PyData} {h : List Fd} {ps : List Nat} (hh : HouseR hd h) (hp : Row pd ps) (hv : ∀ p ∈ ps, p < h.length) : Runs φ c_sizes_of [.dat hd, .dat pd] (.list (ps.map fun p => ic (szAt h p))) := by
  have key := ev_lcN (φ := φ) (elt := .prim .len [.prim .idx [.prim .idx [.var 0, .var 2], .cst (.int (0))]]) (tg := .name 2) (it := .seq (.var 1)) (vs := [2]) (ρ0 := [some (.dat hd), some (.dat pd), none]) (ρ := [some (.dat hd), some (.dat pd), none]) ps ic
    (fun p => ic (szAt h p)) (by simp [evI, evE, show seqOf pd = _ from hp]) (fun p hp' => ?_)
  · simp [Runs, runFn, c_sizes_of, tagA, evSs, evS, key]
  · obtain ⟨f, hf⟩ : ∃ f, h[p]? = some f := ⟨h[p]'(hv p hp'), List.getElem?_eq_getElem _⟩
    obtain ⟨fd, i1, hfd⟩ := hh.idx hf
    obtain ⟨v, e, t, i2, _, _, i3, _⟩ := hfd.parts
    simp [setT, wipeR, evE, evO, rdOs, rdO, i1, i2, i3, szAt, hf]
/-! ### sets -/
def insN (x : Nat) : List Nat → List Nat
  | [] => [x]
  | y :: r => if x < y then x :: y :: r else if x = y then y :: r else y :: insN x r
def srtN : List Nat → List Nat
  | [] => []
  | x :: r => insN x (srtN r)
theorem insU_cast (x : Nat) : ∀ l : List Nat, insU (x : Int) (l.map fun (y : Nat) => (y : Int)) = (insN x l).map fun (y : Nat) => (y : Int)
  | [] => rfl
  | y :: r => by
    simp only [List.map_cons, insU, insN]
    by_cases h : x < y
    · rw [if_pos h, if_pos (by omega)]; rfl
    · rw [if_neg h, if_neg (by omega)]
      by_cases h2 : x = y
      · rw [if_pos h2, if_pos (by omega)]; rfl
      · rw [if_neg h2, if_neg (by omega), List.map_cons, insU_cast x r]
theorem srtU_cast : ∀ l : List Nat, srtU (l.map fun (y : Nat) => (y : Int)) = (srtN l).map fun (y : Nat) => (y : Int)
  | [] => rfl
  | x :: r => by rw [List.map_cons, srtU, srtU_cast r, insU_cast]; rfl
theorem run_set_of {φ : Fn} {d : PyData} {xs : List Nat} (h : Row d xs) (h1 : xs.length + 1 < 4096) (h2 : (srtN xs).length < 64) : Runs φ c_set_of [.dat d] (rowD (srtN xs)) := by
  have e : prim .sortedset [d] = some (.own none (.list ((srtN xs).map ic))) := by
    simp only [prim, p1, show seqOf d = _ from h, Option.bind_some, pSet, intsD_row, srtU_cast, List.length_map]
    rw [if_pos ⟨h1, h2⟩]
    simp [dls, Function.comp_def]
  simp [Runs, runFn, c_set_of, tagA, evSs, evS, evE, evO, rdOs, rdO, e, pr_tuple (d := .list ((srtN xs).map ic)) rfl]
/-! ### rows -/
def rowsAmong (sets : List (List Nat)) : List (List Nat) := sets.foldl (fun found s => found.flatMap fun own => s.map fun n => own ++ [n]) [[]]
theorem rowsAmong_snoc (sets : List (List Nat)) (s : List Nat) : rowsAmong (sets ++ [s]) = (rowsAmong sets).flatMap fun own => s.map fun n => own ++ [n] := by
  unfold rowsAmong
  rw [List.foldl_append]; rfl
theorem flat_len {α β : Type} {f : α → List β} {k : Nat} : ∀ {l : List α}, (∀ a ∈ l, (f a).length ≤ k) → (l.flatMap f).length ≤ l.length * k
  | [], _ => by simp
  | a :: l, h => by
    rw [List.flatMap_cons, List.length_append, List.length_cons, Nat.add_mul, Nat.one_mul]
    have h1 := h a List.mem_cons_self
    have h2 := flat_len (l := l) fun b hb => h b (List.mem_cons_of_mem _ hb)
    omega
theorem rowsAmong_len {k : Nat} (sets : List (List Nat)) (h : ∀ s ∈ sets, s.length ≤ k) : (rowsAmong sets).length ≤ k ^ sets.length := by
  have key : ∀ (sets : List (List Nat)) (acc : List (List Nat)), (∀ s ∈ sets, s.length ≤ k) → (sets.foldl (fun found s => found.flatMap fun own => s.map fun n => own ++ [n]) acc).length ≤ acc.length * k ^ sets.length := by
    intro sets
    induction sets with
    | nil => intro acc _; simp
    | cons s r ih =>
      intro acc h
      have h1 := ih (acc.flatMap fun own => s.map fun n => own ++ [n]) fun t ht => h t (List.mem_cons_of_mem _ ht)
      have h2 : (acc.flatMap fun own => s.map fun n => own ++ [n]).length ≤ acc.length * k := flat_len fun a _ => by rw [List.length_map]; exact h s List.mem_cons_self
      rw [List.foldl_cons, List.length_cons, Nat.pow_succ, Nat.mul_comm (k ^ r.length), ← Nat.mul_assoc]
      exact Nat.le_trans h1 (Nat.mul_le_mul_right _ h2)
  have := key sets [[]] h
  simpa [rowsAmong] using this
theorem rowsAmong_row (sets : List (List Nat)) : ∀ r ∈ rowsAmong sets, r.length = sets.length := by
  have key : ∀ (sets : List (List Nat)) (acc : List (List Nat)) (k : Nat), (∀ r ∈ acc, r.length = k) → ∀ r ∈ sets.foldl (fun found s => found.flatMap fun own => s.map fun n => own ++ [n]) acc, r.length = k + sets.length := by
    intro sets
    induction sets with
    | nil => intro acc k h r hr; exact h r hr
    | cons s t ih =>
      intro acc k h r hr
      rw [List.length_cons, show k + (t.length + 1) = (k + 1) + t.length by omega]
      refine ih _ (k + 1) (fun q hq => ?_) r hr
      obtain ⟨own, h1, h2⟩ := List.mem_flatMap.mp hq
      obtain ⟨n, _, rfl⟩ := List.mem_map.mp h2
      rw [List.length_append, h own h1]; rfl
  intro r hr
  have := key sets [[]] 0 (by simp) r hr
  omega
theorem run_rows_among {φ : Fn} {sd : PyData} {sets : List (List Nat)} (h : BoxR sd sets) (hl : sets.length ≤ 4) (hs : ∀ s ∈ sets, s.length ≤ 16) : Runs φ c_rows_among [.dat sd] (.list ((rowsAmong sets).map rowD)) := by
  obtain ⟨ds, e1, hA⟩ := h
  obtain ⟨z, rfl, rfl, hz⟩ := hA.zip
  have hpow : ∀ don : List (PyData × List Nat), (∀ p ∈ don, p ∈ z) → don.length ≤ 4 → (rowsAmong (don.map (·.2))).length ≤ 65536 := fun don hd hl => by
    refine Nat.le_trans (rowsAmong_len (k := 16) _ fun s hs' => ?_) ?_
    · obtain ⟨p, hp, rfl⟩ := List.mem_map.mp hs'
      exact hs p.2 (List.mem_map.mpr ⟨p, hd p hp, rfl⟩)
    · rw [List.length_map]
      exact Nat.le_trans (Nat.pow_le_pow_right (by omega) hl) (by decide)
  have hI : evI φ (.seq (.var 0)) [some (.dat sd), some (.own none (.list [.tuple []])), none, none, none] = some (z.map (·.1), [some (.dat sd), some (.own none (.list [.tuple []])), none, none, none]) := by
    simp [evI, evE, e1]
  obtain ⟨ρ', k1, x2, k2⟩ := loopFor_M0 (F := fun x r1 => (setT (.name 2) x r1).bind fun r2 => evSs φ [.asg 1 (.lc2 (.tup [.star (.var 3), .var 4]) (.name 3) (.seq (.var 1)) none (.name 4) (.seq (.var 2)) none [3, 4] [4])] r2)
    (ρ := [some (.dat sd), some (.own none (.list [.tuple []])), none, none, none]) z (·.1)
    (fun don ρ => ∃ x2, ρ = [some (.dat sd), some (.own none (.list ((rowsAmong (don.map (·.2))).map rowD))), x2, none, none]) ⟨none, rfl⟩ (by
    rintro don p rest ρ e ⟨x2, rfl⟩
    have hm : ∀ q ∈ don ++ [p], q ∈ z := fun q hq => by rw [e]; simp at hq ⊢; rcases hq with h | h; exact .inl h; exact .inr (.inl h)
    have hlen : (don ++ [p]).length ≤ 4 := by
      have : z.length ≤ 4 := by simpa using hl
      rw [e] at this
      simp at this ⊢
      omega
    have hp := hz p (hm p (by simp))
    have hlc := ev_lc2N (φ := φ) (elt := .tup [.star (.var 3), .var 4]) (tg := .name 3) (tg2 := .name 4) (it := .seq (.var 1)) (it2 := .seq (.var 2)) (vs := [3, 4]) (vs2 := [4]) (ρ0 := [some (.dat sd), some (.own none (.list ((rowsAmong (don.map (·.2))).map rowD))), some (.dat p.1), none, none])
      (ρ := [some (.dat sd), some (.dat (.list ((rowsAmong (don.map (·.2))).map rowD))), some (.dat p.1), none, none]) (rowsAmong (don.map (·.2))) rowD (fun _ => p.2) ic (fun own n => rowD (own ++ [n])) (fun own => [some (.dat sd), some (.dat (.list ((rowsAmong (don.map (·.2))).map rowD))), some (.dat p.1), some (.dat (rowD own)), none])
      (by simp [evI, evE, seqOf]) (fun own _ => by simp [setT, wipeR, evI, evE, show seqOf p.1 = _ from hp]) (fun own _ => by simp [wipeR]) (fun own ho n _ => ?_) ?_
    · refine ⟨[some (.dat sd), some (.own none (.list ((rowsAmong ((don ++ [p]).map (·.2))).map rowD))), some (.dat p.1), none, none], ?_, some (.dat p.1), rfl⟩
      simp only [setT, Option.bind_some, List.set_cons_succ, List.set_cons_zero]
      rw [evSs_nx (evS_asg hlc), List.map_append, List.map_cons, List.map_nil, rowsAmong_snoc]
      simp [setV, List.map_flatMap, Function.comp_def, evSs]
    · have hlo : own.length + 1 ≤ 16777216 := by
        rw [rowsAmong_row _ own ho, List.length_map]
        rw [List.length_append] at hlen
        omega
      simp [setT, wipeR, evE, evL, szl, hlo]
    · have h1 := hpow (don ++ [p]) hm hlen
      rw [List.map_append, List.map_cons, List.map_nil, rowsAmong_snoc] at h1
      simp only [List.length_flatMap, List.length_map] at h1 ⊢
      exact Nat.le_trans h1 (by decide))
  subst k2
  have s1 : evS φ (.asg 1 (.lst [.tup []])) [some (.dat sd), none, none, none, none] = some (.nx, [some (.dat sd), some (.own none (.list [.tuple []])), none, none, none]) := by simp [evS, evE, evL, szl, setV]
  refine runs_of (φ := φ) (c := c_rows_among) (as := [.dat sd]) (v := .own none (.list ((rowsAmong (z.map (·.2))).map rowD))) (ρ' := [some (.dat sd), none, x2, none, none]) rfl ?_
  show evSs φ [_, _, _] [some (.dat sd), none, none, none, none] = _
  rw [evSs_nx s1, evSs_nx (evS_for hI k1)]
  exact evSs_ret (by simp [evS])
/-! ### tables -/
def SpSizes (φ : Fn) : Prop := ∀ (hd pd : PyData) (h : List Fd) (ps : List Nat), HouseR hd h → Row pd ps → (∀ p ∈ ps, p < h.length) → Rets φ "sizes_of" [.dat hd, .dat pd] (.list (ps.map fun p => ic (szAt h p)))
structure Wf (h : List Fd) : Prop where
  few : h.length ≤ 16
  n1 : ∀ f ∈ h, 1 ≤ f.n ∧ f.n ≤ 16
  eyes : ∀ f ∈ h, f.eyes.length ≤ 4 ∧ ∀ e ∈ f.eyes, e < h.length
  tab : ∀ f ∈ h, (f.tab.length = (f.eyes.map (szAt h)).foldr (· * ·) 1) ∧ ∀ x ∈ f.tab, x < f.n
theorem Wf.sz {h : List Fd} (w : Wf h) {p : Nat} (hp : p < h.length) : 1 ≤ szAt h p ∧ szAt h p ≤ 16 := by
  unfold szAt
  rw [List.getElem?_eq_getElem hp]
  exact w.n1 _ (List.getElem_mem hp)
def numOf (qs : List (Nat × Nat)) : Nat := qs.foldl (fun acc q => acc * q.2 + q.1) 0
theorem numOf_snoc (qs : List (Nat × Nat)) (q : Nat × Nat) : numOf (qs ++ [q]) = numOf qs * q.2 + q.1 := by
  unfold numOf; rw [List.foldl_append]; rfl
def eyesAt (h : List Fd) (p : Nat) : List Nat := ((h[p]?).map Fd.eyes).getD []
def tabAt (h : List Fd) (p : Nat) : List Nat := ((h[p]?).map Fd.tab).getD []
def tellAt (h : List Fd) (p : Nat) (row : List Nat) : Nat := (tabAt h p).getD (numOf (row.zip ((eyesAt h p).map (szAt h)))) 0
theorem zipD_ic : ∀ (a b : List Nat), zipD (a.map ic) (b.map ic) = (a.zip b).map fun q => .tuple [ic q.1, ic q.2]
  | [], _ => by simp [zipD]
  | _ :: _, [] => by simp [zipD]
  | x :: a, y :: b => by simp only [List.map_cons, zipD, List.zip_cons_cons, zipD_ic a b]
theorem run_table {φ : Fn} (S : SpSizes φ) {hd rd : PyData} {h : List Fd} {p : Nat} {row : List Nat} (w : Wf h) (hh : HouseR hd h) (hp : p < h.length) (hr : Row rd row) (hn : numOf (row.zip ((eyesAt h p).map (szAt h))) < (tabAt h p).length) :
    Runs φ c_table_at [.dat hd, .dat (ic p), .dat rd] (ic (tellAt h p row)) := by
  obtain ⟨f, hf⟩ : ∃ f, h[p]? = some f := ⟨h[p], List.getElem?_eq_getElem hp⟩
  have hfm : f ∈ h := List.mem_of_getElem? hf
  have ee : eyesAt h p = f.eyes := by simp [eyesAt, hf]
  have te : tabAt h p = f.tab := by simp [tabAt, hf]
  obtain ⟨fd, i1, hfd⟩ := hh.idx hf
  obtain ⟨v, e, t, i2, i3, i4, _, he, ht⟩ := hfd.parts
  obtain ⟨r, outs, s1, s2⟩ := (S hd e h f.eyes hh he (w.eyes f hfm).2).ex
  have hI : evI φ (.zip (.var 2) (.call "sizes_of" [] [] [.var 0, .prim .idx [.prim .idx [.var 0, .var 1], .cst (.int (1))]])) [some (.dat hd), some (.dat (ic p)), some (.dat rd), some (.dat (.int 0)), none, none] =
      some ((row.zip (f.eyes.map (szAt h))).map (fun q => .tuple [ic q.1, ic q.2]), [some (.dat hd), some (.dat (ic p)), some (.dat rd), some (.dat (.int 0)), none, none]) := by
    have hz := zipD_ic row (f.eyes.map (szAt h))
    simp only [List.map_map, Function.comp_def] at hz
    simp [evI, evE, evA, evO, rdOs, rdO, bArg, i1, i3, perm, s1, giveB, upB, show seqOf rd = _ from hr, s2, hz]
  obtain ⟨ρ', k1, x4, x5, k2⟩ := loopFor_M0 (F := fun x r1 => (setT (.tup [.name 4, .name 5]) x r1).bind fun r2 => evSs φ [.asg 3 (.prim .add [.prim .mul [.var 3, .var 5], .var 4])] r2)
    (ρ := [some (.dat hd), some (.dat (ic p)), some (.dat rd), some (.dat (.int 0)), none, none]) (row.zip (f.eyes.map (szAt h))) (fun q => .tuple [ic q.1, ic q.2])
    (fun don ρ => ∃ x4 x5, ρ = [some (.dat hd), some (.dat (ic p)), some (.dat rd), some (.dat (ic (numOf don))), x4, x5]) ⟨none, none, rfl⟩ (by
    rintro don q rest ρ e ⟨x4, x5, rfl⟩
    refine ⟨[some (.dat hd), some (.dat (ic p)), some (.dat rd), some (.dat (ic (numOf (don ++ [q])))), some (.dat (ic q.1)), some (.dat (ic q.2))], ?_, _, _, rfl⟩
    have hq : q.2 ≤ 16 := by
      have hm : q ∈ row.zip (f.eyes.map (szAt h)) := by rw [e]; simp
      obtain ⟨j, hj, e2⟩ := List.mem_map.mp (List.of_mem_zip hm).2
      rw [← e2]
      exact (w.sz ((w.eyes f hfm).2 j hj)).2
    have m1 : prim .mul [ic (numOf don), ic q.2] = some (.dat (.int ((numOf don : Int) * (q.2 : Int)))) := pr_mul (by omega) (by omega)
    have m2 : prim .add [.int ((numOf don : Int) * (q.2 : Int)), ic q.1] = some (.dat (ic (numOf don * q.2 + q.1))) := by rw [pr_add]; simp
    have a1 : evE φ (.prim .mul [.var 3, .var 5]) [some (.dat hd), some (.dat (ic p)), some (.dat rd), some (.dat (ic (numOf don))), some (.dat (ic q.1)), some (.dat (ic q.2))] = some (.dat (.int ((numOf don : Int) * (q.2 : Int))), [some (.dat hd), some (.dat (ic p)), some (.dat rd), some (.dat (ic (numOf don))), some (.dat (ic q.1)), some (.dat (ic q.2))]) :=
      ev_prim (os := [.inl 3, .inl 5]) (ds := [ic (numOf don), ic q.2]) (by simp [evO]) (by simp [rdOs, rdO]) m1
    have a2 : evE φ (.prim .add [.prim .mul [.var 3, .var 5], .var 4]) [some (.dat hd), some (.dat (ic p)), some (.dat rd), some (.dat (ic (numOf don))), some (.dat (ic q.1)), some (.dat (ic q.2))] = some (.dat (ic (numOf don * q.2 + q.1)), [some (.dat hd), some (.dat (ic p)), some (.dat rd), some (.dat (ic (numOf don))), some (.dat (ic q.1)), some (.dat (ic q.2))]) :=
      ev_prim (os := [.inr (.int ((numOf don : Int) * (q.2 : Int))), .inl 4]) (ds := [.int ((numOf don : Int) * (q.2 : Int)), ic q.1]) (by simp [evO, a1]) (by simp [rdOs, rdO]) m2
    rw [numOf_snoc]
    rw [setT_two, Option.bind_some]
    simp only [List.set_cons_succ, List.set_cons_zero]
    rw [evSs_nx (evS_asg a2)]
    simp [evSs, setV])
  subst k2
  have s0 : evS φ (.asg 3 (.cst (.int 0))) [some (.dat hd), some (.dat (ic p)), some (.dat rd), none, none, none] = some (.nx, [some (.dat hd), some (.dat (ic p)), some (.dat rd), some (.dat (.int 0)), none, none]) := by simp [evS, evE, setV]
  refine runs_of (φ := φ) (c := c_table_at) (as := [.dat hd, .dat (ic p), .dat rd]) (v := .dat (ic (tellAt h p row))) (ρ' := [some (.dat hd), some (.dat (ic p)), some (.dat rd), some (.dat (ic (numOf (row.zip (f.eyes.map (szAt h)))))), x4, x5]) rfl ?_
  show evSs φ [_, _, _] [some (.dat hd), some (.dat (ic p)), some (.dat rd), none, none, none] = _
  rw [evSs_nx s0, evSs_nx (evS_for hI k1)]
  rw [ee, te] at hn
  have i5 : prim .idx [t, ic (numOf (row.zip (f.eyes.map (szAt h))))] = some (.dat (ic (tellAt h p row))) := by
    refine ht.idx ?_
    unfold tellAt
    rw [ee, te, List.getD_eq_getElem?_getD, List.getElem?_eq_getElem hn]; rfl
  exact evSs_ret (by simp [evS, evE, evO, rdOs, rdO, i1, i4, i5])
end K10

set_option Elab.async false
set_option linter.all false
set_option autoImplicit false
set_option maxRecDepth 100000
set_option maxHeartbeats 4000000
namespace K10
open PySem LI
def partAt (b : List (List Nat)) (e : Nat) : List Nat := (b[e]?).getD []
def SpRows (φ : Fn) : Prop := ∀ (sd : PyData) (sets : List (List Nat)), BoxR sd sets → sets.length ≤ 4 → (∀ s ∈ sets, s.length ≤ 16) → Rets φ "rows_among" [.dat sd] (.list ((rowsAmong sets).map rowD))
def SpTable (φ : Fn) : Prop := ∀ (hd rd : PyData) (h : List Fd) (p : Nat) (row : List Nat), Wf h → HouseR hd h → p < h.length → Row rd row → numOf (row.zip ((eyesAt h p).map (szAt h))) < (tabAt h p).length → Rets φ "table_at" [.dat hd, .dat (ic p), .dat rd] (ic (tellAt h p row))
def SpSet (φ : Fn) : Prop := ∀ (d : PyData) (xs : List Nat), Row d xs → xs.length + 1 < 4096 → (srtN xs).length < 64 → Rets φ "set_of" [.dat d] (rowD (srtN xs))
/-- a call whose answer is known -/
theorem ev_callR {φ : Fn} {f : Str} {cs : List E} {ρ ρ' : Rho} {as : List SV} {d : PyData} (h : evA φ cs [] ρ = some (as, none, ρ')) (e : Rets φ f as d) : ∃ r, evE φ (.call f [] [] cs) ρ = some (r, ρ') ∧ r.d = d := by
  obtain ⟨r, outs, h1, h2⟩ := e.ex
  exact ⟨r, ev_call h h1, h2⟩
structure InBox (h : List Fd) (b : List (List Nat)) : Prop where
  len : b.length = h.length
  at_ : ∀ (p : Nat) (x : Nat), x ∈ partAt b p → x < szAt h p
  few : ∀ s ∈ b, s.length ≤ 16
def rowsIn (h : List Fd) (b : List (List Nat)) (p : Nat) : List (List Nat) := rowsAmong ((eyesAt h p).map (partAt b))
theorem run_rows_inside {φ : Fn} (S : SpRows φ) {hd bd : PyData} {h : List Fd} {b : List (List Nat)} {p : Nat} (w : Wf h) (hh : HouseR hd h) (hb : BoxR bd b) (i : InBox h b) (hp : p < h.length) :
    Runs φ c_rows_inside [.dat hd, .dat bd, .dat (ic p)] (.list ((rowsIn h b p).map rowD)) := by
  obtain ⟨f, hf⟩ : ∃ f, h[p]? = some f := ⟨h[p], List.getElem?_eq_getElem hp⟩
  have hfm : f ∈ h := List.mem_of_getElem? hf
  have ee : eyesAt h p = f.eyes := by simp [eyesAt, hf]
  obtain ⟨fd, i1, hfd⟩ := hh.idx hf
  obtain ⟨v, e, t, i2, i3, i4, _, he, ht⟩ := hfd.parts
  obtain ⟨ds, e1, hA⟩ := hb
  have hlt : ∀ j ∈ f.eyes, j < b.length := fun j hj => by rw [i.len]; exact (w.eyes f hfm).2 j hj
  have at_ : ∀ j ∈ f.eyes, ∃ r, ds[j]? = some r ∧ Row r (partAt b j) := fun j hj => by
    have hb' : b[j]? = some (partAt b j) := by unfold partAt; rw [List.getElem?_eq_getElem (hlt j hj)]; rfl
    exact hA.get hb'
  have key := ev_lcN (φ := φ) (elt := .prim .idx [.var 1, .var 3]) (tg := .name 3) (it := .seq (.prim .idx [.prim .idx [.var 0, .var 2], .cst (.int (1))])) (vs := [3]) (ρ0 := [some (.dat hd), some (.dat bd), some (.dat (ic p)), none]) (ρ := [some (.dat hd), some (.dat bd), some (.dat (ic p)), none]) f.eyes ic
    (fun j => (ds[j]?).getD .none) (by simp [evI, evE, evO, rdOs, rdO, i1, i3, show seqOf e = _ from he]) (fun j hj => by
      obtain ⟨r, h1, _⟩ := at_ j hj
      have i5 : prim .idx [bd, .int (j : Int)] = some (.dat r) := by rw [pr_idx e1, atD_nat h1]; rfl
      simp [setT_one, wipeR, evE, evO, rdOs, rdO, i5, h1])
  have hB : BoxR (.list (f.eyes.map fun j => (ds[j]?).getD .none)) (f.eyes.map (partAt b)) := by
    refine ⟨_, rfl, ?_⟩
    have : ∀ l : List Nat, (∀ j ∈ l, j ∈ f.eyes) → All2 Row (l.map fun j => (ds[j]?).getD .none) (l.map (partAt b)) := by
      intro l
      induction l with
      | nil => intro _; exact .nil
      | cons j l ih =>
        intro hl
        obtain ⟨r, h1, h2⟩ := at_ j (hl j List.mem_cons_self)
        refine .cons ?_ (ih fun k hk => hl k (List.mem_cons_of_mem _ hk))
        dsimp only
        rw [h1]; exact h2
    exact this f.eyes fun _ h => h
  obtain ⟨r, c1, c2⟩ := ev_callR (φ := φ) (f := "rows_among") (cs := [.lc (.prim .idx [.var 1, .var 3]) (.name 3) (.seq (.prim .idx [.prim .idx [.var 0, .var 2], .cst (.int (1))])) none [3]]) (ρ := [some (.dat hd), some (.dat bd), some (.dat (ic p)), none]) (ρ' := [some (.dat hd), some (.dat bd), some (.dat (ic p)), none])
    (as := [.dat (.list (f.eyes.map fun j => (ds[j]?).getD .none))]) (by simp [evA, bArg, key, upB]) (S _ _ hB (by rw [List.length_map]; exact (w.eyes f hfm).1) fun s hs => by
      obtain ⟨j, hj, rfl⟩ := List.mem_map.mp hs
      have : partAt b j ∈ b := by unfold partAt; rw [List.getElem?_eq_getElem (hlt j hj)]; exact List.getElem_mem _
      exact i.few _ this)
  have := runs_of (φ := φ) (c := c_rows_inside) (as := [.dat hd, .dat bd, .dat (ic p)]) (v := r) (ρ' := [some (.dat hd), some (.dat bd), some (.dat (ic p)), none]) rfl (by
    show evSs φ [_] [some (.dat hd), some (.dat bd), some (.dat (ic p)), none] = _
    exact evSs_ret (by simp only [evS, c1, Option.map_some]))
  rw [c2] at this
  unfold rowsIn
  rw [ee]
  exact this
/-! ### numbers of rows -/
theorem numOf_lt : ∀ (qs : List (Nat × Nat)), (∀ q ∈ qs, q.1 < q.2) → numOf qs < (qs.map (·.2)).foldr (· * ·) 1 := by
  have key : ∀ (qs : List (Nat × Nat)) (acc B : Nat), (∀ q ∈ qs, q.1 < q.2) → acc < B → qs.foldl (fun acc q => acc * q.2 + q.1) acc < B * (qs.map (·.2)).foldr (· * ·) 1 := by
    intro qs
    induction qs with
    | nil => intro acc B _ h; simpa using h
    | cons q r ih =>
      intro acc B h hB
      have hq := h q List.mem_cons_self
      have := ih (acc * q.2 + q.1) (B * q.2) (fun a ha => h a (List.mem_cons_of_mem _ ha)) (by
        have h1 : acc + 1 ≤ B := hB
        have h2 : (acc + 1) * q.2 ≤ B * q.2 := Nat.mul_le_mul_right _ h1
        rw [Nat.add_mul, Nat.one_mul] at h2
        omega)
      rw [List.foldl_cons, List.map_cons, List.foldr_cons, ← Nat.mul_assoc]
      exact this
  intro qs h
  have := key qs 0 1 h (by decide)
  simpa [numOf] using this
/-- a row among sets: one of each -/
theorem mem_rowsAmong : ∀ (sets : List (List Nat)) (r : List Nat), r ∈ rowsAmong sets ↔ All2 (fun x s => x ∈ s) r sets := by
  have fw : ∀ (sets : List (List Nat)) (acc : List (List Nat)) (r : List Nat), r ∈ sets.foldl (fun found s => found.flatMap fun own => s.map fun n => own ++ [n]) acc ↔ ∃ a ∈ acc, ∃ t, r = a ++ t ∧ All2 (fun x s => x ∈ s) t sets := by
    intro sets
    induction sets with
    | nil =>
      intro acc r
      constructor
      · intro h; exact ⟨r, h, [], by simp, .nil⟩
      · rintro ⟨a, ha, t, rfl, ht⟩; cases ht; simpa using ha
    | cons s ss ih =>
      intro acc r
      rw [List.foldl_cons, ih]
      constructor
      · rintro ⟨a, ha, t, rfl, ht⟩
        obtain ⟨own, h1, h2⟩ := List.mem_flatMap.mp ha
        obtain ⟨n, h3, rfl⟩ := List.mem_map.mp h2
        exact ⟨own, h1, n :: t, by simp, .cons h3 ht⟩
      · rintro ⟨a, ha, t, rfl, ht⟩
        cases ht with
        | cons hx ht => exact ⟨a ++ [_], List.mem_flatMap.mpr ⟨a, ha, List.mem_map.mpr ⟨_, hx, rfl⟩⟩, _, by simp, ht⟩
  intro sets r
  unfold rowsAmong
  rw [fw]
  constructor
  · rintro ⟨a, ha, t, rfl, ht⟩
    rw [List.mem_singleton.mp ha]; exact ht
  · intro h; exact ⟨[], by simp, r, by simp, h⟩
theorem row_num {h : List Fd} {b : List (List Nat)} {p : Nat} (w : Wf h) (i : InBox h b) (hp : p < h.length) {r : List Nat} (hr : r ∈ rowsIn h b p) : numOf (r.zip ((eyesAt h p).map (szAt h))) < (tabAt h p).length := by
  obtain ⟨f, hf⟩ : ∃ f, h[p]? = some f := ⟨h[p], List.getElem?_eq_getElem hp⟩
  have hfm : f ∈ h := List.mem_of_getElem? hf
  have ee : eyesAt h p = f.eyes := by simp [eyesAt, hf]
  have te : tabAt h p = f.tab := by simp [tabAt, hf]
  unfold rowsIn at hr
  rw [ee] at hr ⊢
  rw [te, (w.tab f hfm).1]
  have hA := (mem_rowsAmong _ _).mp hr
  have gen : ∀ (es : List Nat) (r : List Nat), All2 (fun x s => x ∈ s) r (es.map (partAt b)) → (∀ q ∈ r.zip (es.map (szAt h)), q.1 < q.2) ∧ (r.zip (es.map (szAt h))).map (·.2) = es.map (szAt h) := by
    intro es
    induction es with
    | nil => intro r hr; cases hr; exact ⟨fun q hq => (nomatch hq), rfl⟩
    | cons e es ih =>
      intro r hr
      cases hr with
      | cons hx ht =>
        obtain ⟨h1, h2⟩ := ih _ ht
        refine ⟨fun q hq => ?_, by simp [h2]⟩
        rcases List.mem_cons.mp hq with rfl | hq
        · exact i.at_ e _ hx
        · exact h1 q hq
  obtain ⟨h1, h2⟩ := gen f.eyes r hA
  have := numOf_lt _ h1
  rw [h2] at this
  exact this
def SpInside (φ : Fn) : Prop := ∀ (hd bd : PyData) (h : List Fd) (b : List (List Nat)) (p : Nat), Wf h → HouseR hd h → BoxR bd b → InBox h b → p < h.length → Rets φ "rows_inside" [.dat hd, .dat bd, .dat (ic p)] (.list ((rowsIn h b p).map rowD))
def toldPart (h : List Fd) (b : List (List Nat)) (p : Nat) : List Nat := srtN ((rowsIn h b p).map (tellAt h p))
/-! ### sorted, each once -/
theorem mem_insN {x y : Nat} : ∀ {l : List Nat}, y ∈ insN x l ↔ y = x ∨ y ∈ l
  | [] => by simp [insN]
  | z :: r => by
    unfold insN
    split
    · simp
    · split
      · rename_i h; subst h; simp
      · simp only [List.mem_cons, mem_insN (l := r)]
        constructor
        · rintro (h | h | h)
          · exact .inr (.inl h)
          · exact .inl h
          · exact .inr (.inr h)
        · rintro (h | h | h)
          · exact .inr (.inl h)
          · exact .inl h
          · exact .inr (.inr h)
theorem mem_srtN {y : Nat} : ∀ {l : List Nat}, y ∈ srtN l ↔ y ∈ l
  | [] => by simp [srtN]
  | x :: r => by rw [srtN, mem_insN, mem_srtN (l := r), List.mem_cons]
abbrev Asc (l : List Nat) : Prop := l.Pairwise (· < ·)
theorem asc_insN {x : Nat} : ∀ {l : List Nat}, Asc l → Asc (insN x l)
  | [], _ => by simp [insN]
  | z :: r, h => by
    obtain ⟨h1, h2⟩ := List.pairwise_cons.mp h
    unfold insN
    split
    · rename_i hx
      refine List.pairwise_cons.mpr ⟨fun a ha => ?_, h⟩
      rcases List.mem_cons.mp ha with rfl | ha
      · exact hx
      · exact Nat.lt_trans hx (h1 a ha)
    · split
      · exact h
      · rename_i hx hne
        refine List.pairwise_cons.mpr ⟨fun a ha => ?_, asc_insN h2⟩
        rcases mem_insN.mp ha with rfl | ha
        · omega
        · exact h1 a ha
theorem asc_srtN : ∀ (l : List Nat), Asc (srtN l)
  | [] => List.Pairwise.nil
  | x :: r => asc_insN (asc_srtN r)
theorem asc_len {n : Nat} {l : List Nat} (h : Asc l) (hb : ∀ x ∈ l, x < n) : l.length ≤ n := by
  have key : ∀ (l : List Nat) (k : Nat), Asc l → (∀ x ∈ l, k ≤ x ∧ x < n) → k ≤ n → l.length + k ≤ n := by
    intro l
    induction l with
    | nil => intro k _ _ h; simpa using h
    | cons x r ih =>
      intro k h hb hk
      obtain ⟨h1, h2⟩ := List.pairwise_cons.mp h
      have hx := hb x List.mem_cons_self
      have := ih (x + 1) h2 (fun y hy => ⟨h1 y hy, (hb y (List.mem_cons_of_mem _ hy)).2⟩) hx.2
      rw [List.length_cons]; omega
  have := key l 0 h (fun x hx => ⟨Nat.zero_le _, hb x hx⟩) (Nat.zero_le _)
  omega
/-- ascending lists with the same members are the same -/
theorem asc_ext : ∀ {l m : List Nat}, Asc l → Asc m → (∀ x, x ∈ l ↔ x ∈ m) → l = m
  | [], [], _, _, _ => rfl
  | [], y :: m, _, _, h => absurd ((h y).mpr List.mem_cons_self) (by simp)
  | x :: l, [], _, _, h => absurd ((h x).mp List.mem_cons_self) (by simp)
  | x :: l, y :: m, hl, hm, h => by
    obtain ⟨a1, a2⟩ := List.pairwise_cons.mp hl
    obtain ⟨b1, b2⟩ := List.pairwise_cons.mp hm
    have e : x = y := by
      have h1 := (h x).mp List.mem_cons_self
      have h2 := (h y).mpr List.mem_cons_self
      rcases List.mem_cons.mp h1 with h1 | h1
      · exact h1
      · rcases List.mem_cons.mp h2 with h2 | h2
        · exact h2.symm
        · have := b1 x h1
          have := a1 y h2
          omega
    subst e
    congr 1
    refine asc_ext a2 b2 fun z => ?_
    constructor
    · intro hz
      rcases List.mem_cons.mp ((h z).mp (List.mem_cons_of_mem _ hz)) with e | h'
      · exact absurd (a1 z hz) (by rw [e]; omega)
      · exact h'
    · intro hz
      rcases List.mem_cons.mp ((h z).mpr (List.mem_cons_of_mem _ hz)) with e | h'
      · exact absurd (b1 z hz) (by rw [e]; omega)
      · exact h'
theorem tell_lt {h : List Fd} {b : List (List Nat)} {p : Nat} (w : Wf h) (i : InBox h b) (hp : p < h.length) {r : List Nat} (hr : r ∈ rowsIn h b p) : tellAt h p r < szAt h p := by
  have hn := row_num w i hp hr
  obtain ⟨f, hf⟩ : ∃ f, h[p]? = some f := ⟨h[p], List.getElem?_eq_getElem hp⟩
  have te : tabAt h p = f.tab := by simp [tabAt, hf]
  have se : szAt h p = f.n := by simp [szAt, hf]
  unfold tellAt
  rw [te] at hn ⊢
  rw [List.getD_eq_getElem?_getD, List.getElem?_eq_getElem hn, se]
  exact (w.tab f (List.mem_of_getElem? hf)).2 _ (List.getElem_mem hn)
theorem rowsIn_len {h : List Fd} {b : List (List Nat)} {p : Nat} (w : Wf h) (i : InBox h b) (hp : p < h.length) (h3 : ∀ f ∈ h, f.eyes.length ≤ 2) : (rowsIn h b p).length ≤ 256 := by
  obtain ⟨f, hf⟩ : ∃ f, h[p]? = some f := ⟨h[p], List.getElem?_eq_getElem hp⟩
  have hfm : f ∈ h := List.mem_of_getElem? hf
  have ee : eyesAt h p = f.eyes := by simp [eyesAt, hf]
  unfold rowsIn
  rw [ee]
  refine Nat.le_trans (rowsAmong_len (k := 16) _ fun s hs => ?_) ?_
  · obtain ⟨j, hj, rfl⟩ := List.mem_map.mp hs
    unfold partAt
    cases q : b[j]? with
    | none => simp
    | some s => exact i.few s (List.mem_of_getElem? q)
  · rw [List.length_map]
    exact Nat.le_trans (Nat.pow_le_pow_right (by omega) (h3 f hfm)) (by decide)
theorem toldPart_few {h : List Fd} {b : List (List Nat)} {p : Nat} (w : Wf h) (i : InBox h b) (hp : p < h.length) : (toldPart h b p).length ≤ 16 := by
  refine Nat.le_trans (asc_len (n := szAt h p) (asc_srtN _) fun x hx => ?_) (w.sz hp).2
  obtain ⟨r, hr, rfl⟩ := List.mem_map.mp (mem_srtN.mp hx)
  exact tell_lt w i hp hr
theorem run_told_part {φ : Fn} (S1 : SpInside φ) (S2 : SpTable φ) (S3 : SpSet φ) {hd bd : PyData} {h : List Fd} {b : List (List Nat)} {p : Nat} (w : Wf h) (h3 : ∀ f ∈ h, f.eyes.length ≤ 2) (hh : HouseR hd h) (hb : BoxR bd b) (i : InBox h b) (hp : p < h.length) :
    Runs φ c_told_part [.dat hd, .dat bd, .dat (ic p)] (rowD (toldPart h b p)) := by
  obtain ⟨r1, c1, c2⟩ := ev_callR (φ := φ) (f := "rows_inside") (cs := [.var 0, .var 1, .var 2]) (ρ := [some (.dat hd), some (.dat bd), some (.dat (ic p)), none]) (ρ' := [some (.dat hd), some (.dat bd), some (.dat (ic p)), none])
    (as := [.dat hd, .dat bd, .dat (ic p)]) (by simp [evA, bArg, evE, upB]) (S1 hd bd h b p w hh hb i hp)
  have key := ev_lcN (φ := φ) (elt := .call "table_at" [] [] [.var 0, .var 2, .var 3]) (tg := .name 3) (it := .seq (.call "rows_inside" [] [] [.var 0, .var 1, .var 2])) (vs := [3]) (ρ0 := [some (.dat hd), some (.dat bd), some (.dat (ic p)), none]) (ρ := [some (.dat hd), some (.dat bd), some (.dat (ic p)), none]) (rowsIn h b p) rowD
    (fun r => ic (tellAt h p r)) (by simp only [evI, c1, Option.bind_some, c2, seq_list, Option.map_some]) (fun r hr => by
      obtain ⟨r2, d1, d2⟩ := ev_callR (φ := φ) (f := "table_at") (cs := [.var 0, .var 2, .var 3]) (ρ := [some (.dat hd), some (.dat bd), some (.dat (ic p)), some (.dat (rowD r))]) (ρ' := [some (.dat hd), some (.dat bd), some (.dat (ic p)), some (.dat (rowD r))])
        (as := [.dat hd, .dat (ic p), .dat (rowD r)]) (by simp [evA, bArg, evE, upB]) (S2 hd (rowD r) h p r w hh hp (row_seq r) (row_num w i hp hr))
      simp [setT_one, wipeR, d1, d2])
  obtain ⟨r3, e1, e2⟩ := ev_callR (φ := φ) (f := "set_of") (cs := [.lc (.call "table_at" [] [] [.var 0, .var 2, .var 3]) (.name 3) (.seq (.call "rows_inside" [] [] [.var 0, .var 1, .var 2])) none [3]]) (ρ := [some (.dat hd), some (.dat bd), some (.dat (ic p)), none]) (ρ' := [some (.dat hd), some (.dat bd), some (.dat (ic p)), none])
    (as := [.dat (.list ((rowsIn h b p).map fun r => ic (tellAt h p r)))]) (by simp [evA, bArg, key, upB]) (S3 _ ((rowsIn h b p).map (tellAt h p)) (by simp [Row, Function.comp_def]) (by rw [List.length_map]; have := rowsIn_len w i hp h3; omega) (Nat.lt_of_le_of_lt (toldPart_few w i hp) (by decide)))
  have := runs_of (φ := φ) (c := c_told_part) (as := [.dat hd, .dat bd, .dat (ic p)]) (v := r3) (ρ' := [some (.dat hd), some (.dat bd), some (.dat (ic p)), none]) rfl (by
    show evSs φ [_] [some (.dat hd), some (.dat bd), some (.dat (ic p)), none] = _
    exact evSs_ret (by simp only [evS, e1, Option.map_some]))
  rw [e2] at this
  exact this
def SpPart (φ : Fn) : Prop := ∀ (hd bd : PyData) (h : List Fd) (b : List (List Nat)) (p : Nat), Wf h → (∀ f ∈ h, f.eyes.length ≤ 2) → HouseR hd h → BoxR bd b → InBox h b → p < h.length → Rets φ "told_part" [.dat hd, .dat bd, .dat (ic p)] (rowD (toldPart h b p))
def toldBox (h : List Fd) (b : List (List Nat)) : List (List Nat) := (List.range h.length).map (toldPart h b)
theorem HouseR.seq {d : PyData} {h : List Fd} (H : HouseR d h) : ∃ ds, seqOf d = some ds ∧ ds.length = h.length := by
  obtain ⟨ds, h1, h2⟩ := H
  exact ⟨ds, h1, h2.length⟩
theorem rgD_nat (n : Nat) : rgD 0 (n : Int) = (List.range n).map ic := by
  unfold rgD
  simp
theorem okRg_nat {n : Nat} (h : n ≤ 1000) : okRg 0 (n : Int) = true := by
  have h1 : (-(2 ^ 62) : Int) ≤ (n : Int) := Int.le_trans (by decide) (Int.natCast_nonneg n)
  have h2 : (n : Int) < 2 ^ 62 := Int.lt_of_le_of_lt (b := 1000) (by omega) (by decide)
  have h3 : ((n : Int) - 0).toNat ≤ 2 ^ 24 := Nat.le_trans (m := 1000) (by omega) (by decide)
  unfold okRg
  rw [decide_eq_true h1, decide_eq_true h2, decide_eq_true h3]
  decide
theorem run_told_box {φ : Fn} (S : SpPart φ) {hd bd : PyData} {h : List Fd} {b : List (List Nat)} (w : Wf h) (h3 : ∀ f ∈ h, f.eyes.length ≤ 2) (hh : HouseR hd h) (hb : BoxR bd b) (i : InBox h b) : Runs φ c_told_box [.dat hd, .dat bd] (boxD (toldBox h b)) := by
  obtain ⟨ds, e1, e2⟩ := hh.seq
  have i1 : prim .len [hd] = some (.dat (ic h.length)) := by rw [pr_len e1, e2]
  have ok : okRg 0 (h.length : Int) = true := okRg_nat (Nat.le_trans w.few (by decide))
  have key := ev_lcN (φ := φ) (elt := .call "told_part" [] [] [.var 0, .var 1, .var 2]) (tg := .name 2) (it := .rng1 (.prim .len [.var 0])) (vs := [2]) (ρ0 := [some (.dat hd), some (.dat bd), none]) (ρ := [some (.dat hd), some (.dat bd), none]) (List.range h.length) ic
    (fun p => rowD (toldPart h b p)) (by rw [← rgD_nat]; exact ev_rng1 (v := .dat (ic h.length)) (ev_prim (os := [.inl 0]) (ds := [hd]) (by simp [evO]) (by simp [rdOs, rdO]) i1) rfl ok) (fun p hp => by
      obtain ⟨r2, d1, d2⟩ := ev_callR (φ := φ) (f := "told_part") (cs := [.var 0, .var 1, .var 2]) (ρ := [some (.dat hd), some (.dat bd), some (.dat (ic p))]) (ρ' := [some (.dat hd), some (.dat bd), some (.dat (ic p))])
        (as := [.dat hd, .dat bd, .dat (ic p)]) (by simp [evA, bArg, evE, upB]) (S hd bd h b p w h3 hh hb i (List.mem_range.mp hp))
      simp [setT_one, wipeR, d1, d2])
  refine runs_of (φ := φ) (c := c_told_box) (as := [.dat hd, .dat bd]) (v := .dat (boxD (toldBox h b))) (ρ' := [some (.dat hd), some (.dat bd), none]) rfl ?_
  show evSs φ [_] [some (.dat hd), some (.dat bd), none] = _
  refine evSs_ret ?_
  have : evE φ (.prim .tuple [.lc (.call "told_part" [] [] [.var 0, .var 1, .var 2]) (.name 2) (.rng1 (.prim .len [.var 0])) none [2]]) [some (.dat hd), some (.dat bd), none] = some (.dat (boxD (toldBox h b)), [some (.dat hd), some (.dat bd), none]) :=
    ev_prim (os := [.inr (.list ((List.range h.length).map fun p => rowD (toldPart h b p)))]) (ds := [.list ((List.range h.length).map fun p => rowD (toldPart h b p))]) (by simp [evO, key]) (by simp [rdOs, rdO]) (by rw [pr_tuple rfl]; simp [toldBox, Function.comp_def])
  simp only [evS, this, Option.map_some]
end K10

set_option Elab.async false
set_option linter.all false
set_option autoImplicit false
set_option maxRecDepth 100000
set_option maxHeartbeats 4000000
namespace K10
open PySem LI
/-! ### boxes: the plain law -/
/-- a box of a house: each part ascending, not empty, of the field's values -/
structure IsBox (h : List Fd) (b : List (List Nat)) : Prop where
  len : b.length = h.length
  asc : ∀ p < h.length, Asc (partAt b p)
  ne : ∀ p < h.length, partAt b p ≠ []
  at_ : ∀ p < h.length, ∀ x ∈ partAt b p, x < szAt h p
def Sub (h : List Fd) (a b : List (List Nat)) : Prop := ∀ p < h.length, ∀ x ∈ partAt a p, x ∈ partAt b p
theorem Sub.refl {h : List Fd} (a : List (List Nat)) : Sub h a a := fun _ _ _ hx => hx
theorem Sub.trans {h : List Fd} {a b c : List (List Nat)} (x : Sub h a b) (y : Sub h b c) : Sub h a c := fun p hp z hz => y p hp z (x p hp z hz)
theorem partAt_map {n : Nat} {f : Nat → List Nat} {p : Nat} (hp : p < n) : partAt ((List.range n).map f) p = f p := by
  unfold partAt
  rw [List.getElem?_map, List.getElem?_range hp]; rfl
theorem partAt_out {b : List (List Nat)} {p : Nat} (h : b.length ≤ p) : partAt b p = [] := by
  unfold partAt
  rw [List.getElem?_eq_none h]; rfl
theorem IsBox.inb {h : List Fd} {b : List (List Nat)} (w : Wf h) (i : IsBox h b) : InBox h b := by
  refine ⟨i.len, fun p x hx => ?_, fun s hs => ?_⟩
  · by_cases hp : p < h.length
    · exact i.at_ p hp x hx
    · rw [partAt_out (by rw [i.len]; omega)] at hx; cases hx
  · obtain ⟨p, hp, rfl⟩ := List.mem_iff_getElem.mp hs
    have hp' : p < h.length := by rw [← i.len]; exact hp
    have e : partAt b p = b[p] := by unfold partAt; rw [List.getElem?_eq_getElem hp]; rfl
    rw [← e]
    exact Nat.le_trans (asc_len (i.asc p hp') (i.at_ p hp')) (w.sz hp').2
theorem box_ext {h : List Fd} {a b : List (List Nat)} (x : IsBox h a) (y : IsBox h b) (s : Sub h a b) (t : Sub h b a) : a = b := by
  refine List.ext_getElem (by rw [x.len, y.len]) fun p h1 h2 => ?_
  have hp : p < h.length := by rw [← x.len]; exact h1
  have e1 : partAt a p = a[p] := by unfold partAt; rw [List.getElem?_eq_getElem h1]; rfl
  have e2 : partAt b p = b[p] := by unfold partAt; rw [List.getElem?_eq_getElem h2]; rfl
  rw [← e1, ← e2]
  exact asc_ext (x.asc p hp) (y.asc p hp) fun z => ⟨s p hp z, t p hp z⟩
theorem eyes_lt {h : List Fd} (w : Wf h) {p : Nat} (hp : p < h.length) : ∀ e ∈ eyesAt h p, e < h.length := by
  unfold eyesAt
  rw [List.getElem?_eq_getElem hp]
  exact (w.eyes _ (List.getElem_mem hp)).2
theorem rows_mono {h : List Fd} (w : Wf h) {a b : List (List Nat)} (s : Sub h a b) {p : Nat} (hp : p < h.length) {r : List Nat} (hr : r ∈ rowsIn h a p) : r ∈ rowsIn h b p := by
  unfold rowsIn at hr ⊢
  rw [mem_rowsAmong] at hr ⊢
  have : ∀ (es r : List Nat), (∀ e ∈ es, e < h.length) → All2 (fun x s => x ∈ s) r (es.map (partAt a)) → All2 (fun x s => x ∈ s) r (es.map (partAt b)) := by
    intro es
    induction es with
    | nil => intro r _ hr; cases hr; exact .nil
    | cons e es ih =>
      intro r he hr
      cases hr with
      | cons hx ht => exact .cons (s e (he e List.mem_cons_self) _ hx) (ih _ (fun k hk => he k (List.mem_cons_of_mem _ hk)) ht)
  exact this _ _ (eyes_lt w hp) hr
theorem told_mono {h : List Fd} (w : Wf h) {a b : List (List Nat)} (s : Sub h a b) : Sub h (toldBox h a) (toldBox h b) := by
  intro p hp x hx
  unfold toldBox at hx ⊢
  rw [partAt_map hp] at hx ⊢
  obtain ⟨r, hr, e⟩ := List.mem_map.mp (mem_srtN.mp hx)
  exact mem_srtN.mpr (List.mem_map.mpr ⟨r, rows_mono w s hp hr, e⟩)
theorem rows_ne {h : List Fd} (w : Wf h) {b : List (List Nat)} (i : IsBox h b) {p : Nat} (hp : p < h.length) : rowsIn h b p ≠ [] := by
  have : ∀ es : List Nat, (∀ e ∈ es, e < h.length) → ∃ r, All2 (fun x s => x ∈ s) r (es.map (partAt b)) := by
    intro es
    induction es with
    | nil => intro _; exact ⟨[], .nil⟩
    | cons e es ih =>
      intro he
      obtain ⟨r, hr⟩ := ih fun k hk => he k (List.mem_cons_of_mem _ hk)
      obtain ⟨x, hx⟩ := List.exists_mem_of_ne_nil _ (i.ne e (he e List.mem_cons_self))
      exact ⟨x :: r, .cons hx hr⟩
  obtain ⟨r, hr⟩ := this _ (eyes_lt w hp)
  exact List.ne_nil_of_mem ((mem_rowsAmong _ _).mpr hr)
theorem told_box {h : List Fd} (w : Wf h) {b : List (List Nat)} (i : IsBox h b) : IsBox h (toldBox h b) := by
  refine ⟨by simp [toldBox], fun p hp => ?_, fun p hp => ?_, fun p hp x hx => ?_⟩
  · unfold toldBox; rw [partAt_map hp]; exact asc_srtN _
  · unfold toldBox; rw [partAt_map hp]
    obtain ⟨r, hr⟩ := List.exists_mem_of_ne_nil _ (rows_ne w i hp)
    exact List.ne_nil_of_mem (mem_srtN.mpr (List.mem_map.mpr ⟨r, hr, rfl⟩))
  · unfold toldBox at hx; rw [partAt_map hp] at hx
    obtain ⟨r, hr, rfl⟩ := List.mem_map.mp (mem_srtN.mp hx)
    exact tell_lt w (i.inb w) hp hr
/-- both together -/
def joinB (h : List Fd) (a b : List (List Nat)) : List (List Nat) := (List.range h.length).map fun p => srtN (partAt a p ++ partAt b p)
theorem join_mem {h : List Fd} {a b : List (List Nat)} {p : Nat} (hp : p < h.length) {x : Nat} : x ∈ partAt (joinB h a b) p ↔ x ∈ partAt a p ∨ x ∈ partAt b p := by
  unfold joinB; rw [partAt_map hp, mem_srtN, List.mem_append]
theorem join_box {h : List Fd} {a b : List (List Nat)} (x : IsBox h a) (y : IsBox h b) : IsBox h (joinB h a b) := by
  refine ⟨by simp [joinB], fun p hp => ?_, fun p hp => ?_, fun p hp z hz => ?_⟩
  · unfold joinB; rw [partAt_map hp]; exact asc_srtN _
  · obtain ⟨z, hz⟩ := List.exists_mem_of_ne_nil _ (x.ne p hp)
    exact List.ne_nil_of_mem ((join_mem hp).mpr (.inl hz))
  · rcases (join_mem hp).mp hz with h1 | h1
    · exact x.at_ p hp z h1
    · exact y.at_ p hp z h1
def growStep (h : List Fd) (b : List (List Nat)) : List (List Nat) := joinB h b (toldBox h b)
def isize (b : List (List Nat)) : Nat := (b.map List.length).sum
/-- the greatest lasting one inside a closed one -/
theorem lasting_in {h : List Fd} (w : Wf h) {s a : List (List Nat)} (hs : Sub h s (toldBox h s)) (ha : Sub h s a) : Sub h s (toldBox h a) := hs.trans (told_mono w ha)
end K10

set_option Elab.async false
set_option linter.all false
set_option autoImplicit false
set_option maxRecDepth 100000
set_option maxHeartbeats 4000000
namespace K10
open PySem LI
/-! ### equality of rows and boxes -/
theorem eqv_ic (x y : Nat) : PyData.eqv (ic x) (ic y) = decide (x = y) := by
  have e : PyData.eqv (ic x) (ic y) = ((x : Int) == (y : Int)) := by simp [PyData.eqv]
  rw [e]
  by_cases h : x = y
  · subst h; simp
  · have h2 : ((x : Int) == (y : Int)) = false := by rw [beq_eq_false_iff_ne]; omega
    rw [h2, decide_eq_false h]
theorem eqvAll_row : ∀ a b : List Nat, PyData.eqvAll (a.map ic) (b.map ic) = decide (a = b)
  | [], [] => rfl
  | [], _ :: _ => by simp [PyData.eqvAll]
  | _ :: _, [] => by simp [PyData.eqvAll]
  | x :: a, y :: b => by
    simp only [List.map_cons, PyData.eqvAll, eqv_ic, eqvAll_row a b]
    by_cases h : x = y <;> by_cases h2 : a = b <;> simp [h, h2]
theorem eqv_row (a b : List Nat) : PyData.eqv (rowD a) (rowD b) = decide (a = b) := by
  simp only [PyData.eqv, eqvAll_row]
theorem eqvAll_box : ∀ a b : List (List Nat), PyData.eqvAll (a.map rowD) (b.map rowD) = decide (a = b)
  | [], [] => rfl
  | [], _ :: _ => by simp [PyData.eqvAll]
  | _ :: _, [] => by simp [PyData.eqvAll]
  | x :: a, y :: b => by
    simp only [List.map_cons, PyData.eqvAll, eqvAll_box a b]
    rw [eqv_row]
    by_cases h : x = y <;> by_cases h2 : a = b <;> simp [h, h2]
theorem eqv_box (a b : List (List Nat)) : PyData.eqv (boxD a) (boxD b) = decide (a = b) := by
  simp only [PyData.eqv, eqvAll_box]
theorem lay_row : ∀ a : List Nat, PyData.canLayAll0 (a.map ic) = true ∧ PyData.depthAll (a.map ic) ≤ 1
  | [] => ⟨rfl, by simp [PyData.depthAll]⟩
  | x :: a => by
    obtain ⟨h1, h2⟩ := lay_row a
    refine ⟨by simp [PyData.canLayAll0, PyData.canLay0, h1], ?_⟩
    simp only [List.map_cons, PyData.depthAll, PyData.depth]
    omega
theorem lay_box : ∀ a : List (List Nat), PyData.canLayAll0 (a.map rowD) = true ∧ PyData.depthAll (a.map rowD) ≤ 3
  | [] => ⟨rfl, by simp [PyData.depthAll]⟩
  | x :: a => by
    obtain ⟨h1, h2⟩ := lay_box a
    obtain ⟨h3, h4⟩ := lay_row x
    refine ⟨by simp [PyData.canLayAll0, PyData.canLay0, h1, h3], ?_⟩
    simp only [List.map_cons, PyData.depthAll, PyData.depth]
    omega
theorem shaped_box (a : List (List Nat)) : SeqAt.shaped (boxD a) = true := by
  obtain ⟨h1, h2⟩ := lay_box a
  unfold SeqAt.shaped
  rw [Bool.and_eq_true]
  refine ⟨by simp [PyData.canLay0, h1], decide_eq_true ?_⟩
  simp only [PyData.depth]
  omega
theorem pr_ne_box (a b : List (List Nat)) : prim .ne [boxD a, boxD b] = some (.dat (.bool (!decide (a = b)))) := by
  have e : prim .ne [boxD a, boxD b] = if SeqAt.shaped (boxD a) && SeqAt.shaped (boxD b) then dbl (!PyData.eqv (boxD a) (boxD b)) else none := rfl
  rw [e, shaped_box, shaped_box, eqv_box]
  rfl
/-! ### how a box grows -/
def itG (h : List Fd) (b : List (List Nat)) : Nat → List (List Nat)
  | 0 => b
  | k + 1 => growStep h (itG h b k)
theorem itG_box {h : List Fd} (w : Wf h) {b : List (List Nat)} (i : IsBox h b) : ∀ k, IsBox h (itG h b k)
  | 0 => i
  | k + 1 => join_box (itG_box w i k) (told_box w (itG_box w i k))
theorem grow_sub {h : List Fd} {b : List (List Nat)} : Sub h b (growStep h b) := fun p hp x hx => (join_mem hp).mpr (.inl hx)
theorem asc_sub_len {l m : List Nat} (hl : Asc l) (hm : Asc m) (hs : ∀ z ∈ l, z ∈ m) : l.length ≤ m.length := by
  have key : ∀ (l m : List Nat), Asc l → Asc m → (∀ z ∈ l, z ∈ m) → l.length ≤ m.length := by
    intro l
    induction l with
    | nil => intro m _ _ _; simp
    | cons z l ih =>
      intro m hl hm hs
      obtain ⟨a1, a2⟩ := List.pairwise_cons.mp hl
      have hz := hs z List.mem_cons_self
      have := ih (m.erase z) a2 (hm.sublist List.erase_sublist) fun q hq => (List.mem_erase_of_ne (by have := a1 q hq; omega)).mpr (hs q (List.mem_cons_of_mem _ hq))
      rw [List.length_erase_of_mem hz] at this
      have hpos : 0 < m.length := List.length_pos_iff.mpr (List.ne_nil_of_mem hz)
      rw [List.length_cons]; omega
  exact key l m hl hm hs
theorem asc_sub_eq {l m : List Nat} (hl : Asc l) (hm : Asc m) (hs : ∀ z ∈ l, z ∈ m) (he : m.length ≤ l.length) : l = m := by
  refine asc_ext hl hm fun x => ⟨hs x, fun hx => ?_⟩
  by_cases q : x ∈ l
  · exact q
  · exfalso
    have := asc_sub_len hl (hm.sublist List.erase_sublist) (m := m.erase x) fun z hz => (List.mem_erase_of_ne (fun e => q (by rw [← e]; exact hz))).mpr (hs z hz)
    rw [List.length_erase_of_mem hx] at this
    have hpos : 0 < m.length := List.length_pos_iff.mpr (List.ne_nil_of_mem hx)
    omega
def sizeB (h : List Fd) (b : List (List Nat)) : Nat := ((List.range h.length).map fun p => (partAt b p).length).sum
theorem sum_le {f g : Nat → Nat} : ∀ {l : List Nat}, (∀ p ∈ l, f p ≤ g p) → (l.map f).sum ≤ (l.map g).sum
  | [], _ => Nat.le_refl _
  | x :: l, h => by
    simp only [List.map_cons, List.sum_cons]
    have h1 := h x List.mem_cons_self
    have h2 := sum_le (l := l) fun p hp => h p (List.mem_cons_of_mem _ hp)
    omega
theorem sum_eq {f g : Nat → Nat} : ∀ {l : List Nat}, (∀ p ∈ l, f p ≤ g p) → (l.map g).sum ≤ (l.map f).sum → ∀ p ∈ l, g p ≤ f p
  | [], _, _, p, hp => nomatch hp
  | x :: l, h, e, p, hp => by
    simp only [List.map_cons, List.sum_cons] at e
    have h1 := h x List.mem_cons_self
    have h2 := sum_le (l := l) fun p hp => h p (List.mem_cons_of_mem _ hp)
    rcases List.mem_cons.mp hp with rfl | hp
    · omega
    · exact sum_eq (l := l) (fun p hp => h p (List.mem_cons_of_mem _ hp)) (by omega) p hp
/-- a greater box that is another is longer -/
theorem size_lt {h : List Fd} {a b : List (List Nat)} (x : IsBox h a) (y : IsBox h b) (s : Sub h a b) (ne : a ≠ b) : sizeB h a < sizeB h b := by
  have hle : ∀ p ∈ List.range h.length, (partAt a p).length ≤ (partAt b p).length := fun p hp => asc_sub_len (x.asc p (List.mem_range.mp hp)) (y.asc p (List.mem_range.mp hp)) (s p (List.mem_range.mp hp))
  by_cases q : sizeB h b ≤ sizeB h a
  · exfalso
    refine ne (box_ext x y s fun p hp z hz => ?_)
    have := sum_eq hle q p (List.mem_range.mpr hp)
    rw [asc_sub_eq (x.asc p hp) (y.asc p hp) (s p hp) this]; exact hz
  · omega
theorem size_le {h : List Fd} (w : Wf h) {b : List (List Nat)} (i : IsBox h b) : sizeB h b ≤ 256 := by
  have h1 : sizeB h b ≤ ((List.range h.length).map fun _ => 16).sum := sum_le fun p hp => Nat.le_trans (asc_len (i.asc p (List.mem_range.mp hp)) (i.at_ p (List.mem_range.mp hp))) (w.sz (List.mem_range.mp hp)).2
  have h2 : ∀ n : Nat, ((List.range n).map fun _ => 16).sum = n * 16 := fun n => by
    rw [List.map_const', List.sum_replicate_nat, List.length_range]
  rw [h2] at h1
  have := w.few
  omega
end K10

set_option Elab.async false
set_option linter.all false
set_option autoImplicit false
set_option maxRecDepth 100000
set_option maxHeartbeats 4000000
namespace K10
open PySem LI
theorem pr_isi_seq {d : PyData} {xs : List PyData} (h : seqOf d = some xs) : prim (.isi [.list, .tuple]) [d] = some (.dat (.bool true)) := by
  cases d <;> first | (simp [seqOf] at h; done) | rfl
theorem run_tup_int {φ : Fn} (x : Nat) : Runs φ c_tupled [.dat (ic x)] (ic x) := by
  have e : prim (.isi [.list, .tuple]) [ic x] = some (.dat (.bool false)) := rfl
  refine runs_of (φ := φ) (c := c_tupled) (as := [.dat (ic x)]) (v := .dat (ic x)) (ρ' := [some (.dat (ic x)), none]) rfl ?_
  show evSs φ [_] [some (.dat (ic x)), none] = _
  refine evSs_ret ?_
  have c1 : evE φ (.prim (.isi [.list, .tuple]) [.var 0]) [some (.dat (ic x)), none] = some (.dat (.bool false), [some (.dat (ic x)), none]) := ev_prim (os := [.inl 0]) (ds := [ic x]) (by simp [evO]) (by simp [rdOs, rdO]) e
  have c3 := evE_ite (φ := φ) (c := .prim (.isi [.list, .tuple]) [.var 0]) (a := .prim .tuple [.lc (.call "tupled" [] [] [.var 1]) (.name 1) (.seq (.var 0)) none [1]]) (b := .var 0) (t := false) c1 rfl
  rw [ev_var (d := ic x) rfl] at c3
  simp only [Bool.false_eq_true, if_false] at c3
  simp only [evS, c3, Option.map_some]
theorem run_tup_seq {φ : Fn} {d : PyData} {xs : List PyData} (hs : seqOf d = some xs) (g : PyData → PyData) (h : ∀ x ∈ xs, Rets φ "tupled" [.dat x] (g x)) : Runs φ c_tupled [.dat d] (.tuple (xs.map g)) := by
  have c1 : evE φ (.prim (.isi [.list, .tuple]) [.var 0]) [some (.dat d), none] = some (.dat (.bool true), [some (.dat d), none]) := ev_prim (os := [.inl 0]) (ds := [d]) (by simp [evO]) (by simp [rdOs, rdO]) (pr_isi_seq hs)
  have key := ev_lcN (φ := φ) (elt := .call "tupled" [] [] [.var 1]) (tg := .name 1) (it := .seq (.var 0)) (vs := [1]) (ρ0 := [some (.dat d), none]) (ρ := [some (.dat d), none]) xs id g (by simp [evI, evE, hs]) (fun x hx => by
    obtain ⟨r2, d1, d2⟩ := ev_callR (φ := φ) (f := "tupled") (cs := [.var 1]) (ρ := [some (.dat d), some (.dat x)]) (ρ' := [some (.dat d), some (.dat x)]) (as := [.dat x]) (by simp [evA, bArg, evE, upB]) (h x hx)
    simp [setT_one, wipeR, d1, d2])
  have c2 : evE φ (.prim .tuple [.lc (.call "tupled" [] [] [.var 1]) (.name 1) (.seq (.var 0)) none [1]]) [some (.dat d), none] = some (.dat (.tuple (xs.map g)), [some (.dat d), none]) :=
    ev_prim (os := [.inr (.list (xs.map g))]) (ds := [.list (xs.map g)]) (by simp [evO, key]) (by simp [rdOs, rdO]) (by rw [pr_tuple rfl])
  refine runs_of (φ := φ) (c := c_tupled) (as := [.dat d]) (v := .dat (.tuple (xs.map g))) (ρ' := [some (.dat d), none]) rfl ?_
  show evSs φ [_] [some (.dat d), none] = _
  refine evSs_ret ?_
  have c3 := evE_ite (φ := φ) (c := .prim (.isi [.list, .tuple]) [.var 0]) (a := .prim .tuple [.lc (.call "tupled" [] [] [.var 1]) (.name 1) (.seq (.var 0)) none [1]]) (b := .var 0) (t := true) c1 rfl
  simp only [if_true, c2] at c3
  simp only [evS, c3, Option.map_some]
def SpTupRow (φ : Fn) : Prop := ∀ (d : PyData) (xs : List Nat), Row d xs → Rets φ "tupled" [.dat d] (rowD xs)
def SpTupBox (φ : Fn) : Prop := ∀ (d : PyData) (b : List (List Nat)), BoxR d b → Rets φ "tupled" [.dat d] (boxD b)
theorem run_tup_row {φ : Fn} (S : ∀ x : Nat, Rets φ "tupled" [.dat (ic x)] (ic x)) {d : PyData} {xs : List Nat} (h : Row d xs) : Runs φ c_tupled [.dat d] (rowD xs) := by
  have := run_tup_seq h id fun x hx => by
    obtain ⟨n, _, rfl⟩ := List.mem_map.mp hx
    exact S n
  simpa using this
theorem run_tup_box {φ : Fn} (S : SpTupRow φ) {d : PyData} {b : List (List Nat)} (h : BoxR d b) : Runs φ c_tupled [.dat d] (boxD b) := by
  obtain ⟨ds, h1, h2⟩ := h
  have := run_tup_seq h1 (fun x => (seqOf x).elim .none .tuple) fun x hx => by
    obtain ⟨z, e1, e2, h3⟩ := h2.zip
    rw [e1] at hx
    obtain ⟨q, hq, rfl⟩ := List.mem_map.mp hx
    have hr := h3 q hq
    rw [show seqOf q.1 = _ from hr]
    exact S q.1 q.2 hr
  have e : ds.map (fun x => (seqOf x).elim .none .tuple) = b.map rowD := by
    clear this h1
    induction h2 with
    | nil => rfl
    | cons r _ ih => rw [List.map_cons, List.map_cons, ih, show seqOf _ = _ from r]; rfl
  rw [e] at this
  exact this
end K10

set_option Elab.async false
set_option linter.all false
set_option autoImplicit false
set_option maxRecDepth 100000
set_option maxHeartbeats 4000000
namespace K10
open PySem LI
/-! ### a lap of growing -/
theorem box_parts {h : List Fd} {b : List (List Nat)} (i : IsBox h b) : b = (List.range h.length).map (partAt b) := by
  refine List.ext_getElem (by simp [i.len]) fun p h1 h2 => ?_
  rw [List.getElem_map, List.getElem_range]
  unfold partAt
  rw [List.getElem?_eq_getElem h1]; rfl
theorem ev_neg {φ : Fn} {ρ : Rho} (n : Int) : evE φ (.prim .neg [.cst (.int n)]) ρ = some (.dat (.int (-n)), ρ) :=
  ev_prim (os := [.inr (.int n)]) (ds := [.int n]) (by simp [evO, evE]) (by simp [rdOs, rdO]) rfl
/-- what is grown on one lap -/
theorem ev_told {φ : Fn} (S : SpPart φ) {hd : PyData} {h : List Fd} {b : List (List Nat)} {x1 x3 x5 : Option SV} (w : Wf h) (h3 : ∀ f ∈ h, f.eyes.length ≤ 2) (hh : HouseR hd h) (i : IsBox h b) :
    evE φ (.lc (.ite (.prim .isin [.var 6, .var 2]) (.tup []) (.call "told_part" [] [] [.var 0, .var 4, .var 6])) (.name 6) (.rng1 (.prim .len [.var 0])) none [6]) [some (.dat hd), x1, some (.dat (.tuple [])), x3, some (.dat (boxD b)), x5, none, none, none] =
      some (.own none (.list ((List.range h.length).map fun p => rowD (toldPart h b p))), [some (.dat hd), x1, some (.dat (.tuple [])), x3, some (.dat (boxD b)), x5, none, none, none]) := by
  obtain ⟨ds, e1, e2⟩ := hh.seq
  have i1 : prim .len [hd] = some (.dat (ic h.length)) := by rw [pr_len e1, e2]
  have ok : okRg 0 (h.length : Int) = true := okRg_nat (Nat.le_trans w.few (by decide))
  refine ev_lcN (List.range h.length) ic (fun p => rowD (toldPart h b p)) (by rw [← rgD_nat]; exact ev_rng1 (v := .dat (ic h.length)) (ev_prim (os := [.inl 0]) (ds := [hd]) (by simp [evO]) (by simp [rdOs, rdO]) i1) rfl ok) fun p hp => ?_
  have c1 : evE φ (.prim .isin [.var 6, .var 2]) [some (.dat hd), x1, some (.dat (.tuple [])), x3, some (.dat (boxD b)), x5, some (.dat (ic p)), none, none] = some (.dat (.bool false), [some (.dat hd), x1, some (.dat (.tuple [])), x3, some (.dat (boxD b)), x5, some (.dat (ic p)), none, none]) :=
    ev_prim (os := [.inl 6, .inl 2]) (ds := [ic p, .tuple []]) (by simp [evO]) (by simp [rdOs, rdO]) rfl
  obtain ⟨r2, d1, d2⟩ := ev_callR (φ := φ) (f := "told_part") (cs := [.var 0, .var 4, .var 6]) (ρ := [some (.dat hd), x1, some (.dat (.tuple [])), x3, some (.dat (boxD b)), x5, some (.dat (ic p)), none, none]) (ρ' := [some (.dat hd), x1, some (.dat (.tuple [])), x3, some (.dat (boxD b)), x5, some (.dat (ic p)), none, none])
    (as := [.dat hd, .dat (boxD b), .dat (ic p)]) (by simp [evA, bArg, evE, upB]) (S hd (boxD b) h b p w h3 hh (box_seq b) (i.inb w) (List.mem_range.mp hp))
  have c3 := evE_ite (φ := φ) (c := .prim .isin [.var 6, .var 2]) (a := .tup []) (b := .call "told_part" [] [] [.var 0, .var 4, .var 6]) (t := false) c1 rfl
  simp only [Bool.false_eq_true, if_false, d1] at c3
  have e : setT (.name 6) (ic p) (wipeR [some (.dat hd), x1, some (.dat (.tuple [])), x3, some (.dat (boxD b)), x5, none, none, none] [6]) = some [some (.dat hd), x1, some (.dat (.tuple [])), x3, some (.dat (boxD b)), x5, some (.dat (ic p)), none, none] := by
    rw [setT_one]; rfl
  rw [e, Option.bind_some, c3, Option.map_some, d2]
  rfl
theorem ev_join {φ : Fn} (S : SpSet φ) {hd : PyData} {h : List Fd} {b : List (List Nat)} {x1 x2 x3 : Option SV} (w : Wf h) (h3 : ∀ f ∈ h, f.eyes.length ≤ 2) (i : IsBox h b) :
    evE φ (.prim .tuple [.lc (.call "set_of" [] [] [.lst [.star (.var 7), .star (.var 8)]]) (.tup [.name 7, .name 8]) (.zip (.var 4) (.var 5)) none [7, 8]]) [some (.dat hd), x1, x2, x3, some (.dat (boxD b)), some (.own none (.list ((List.range h.length).map fun p => rowD (toldPart h b p)))), none, none, none] =
      some (.dat (boxD (growStep h b)), [some (.dat hd), x1, x2, x3, some (.dat (boxD b)), some (.dat (.list ((List.range h.length).map fun p => rowD (toldPart h b p)))), none, none, none]) := by
  have hz : ∀ l : List Nat, zipD (l.map fun p => rowD (partAt b p)) (l.map fun p => rowD (toldPart h b p)) = l.map fun p => .tuple [rowD (partAt b p), rowD (toldPart h b p)] := by
    intro l
    induction l with
    | nil => rfl
    | cons p l ih => simp only [List.map_cons, zipD, ih]
  have hb : b.map rowD = (List.range h.length).map fun p => rowD (partAt b p) := by
    conv => lhs; rw [box_parts i]
    rw [List.map_map]; rfl
  have key := ev_lcN (φ := φ) (elt := .call "set_of" [] [] [.lst [.star (.var 7), .star (.var 8)]]) (tg := .tup [.name 7, .name 8]) (it := .zip (.var 4) (.var 5)) (vs := [7, 8])
    (ρ0 := [some (.dat hd), x1, x2, x3, some (.dat (boxD b)), some (.own none (.list ((List.range h.length).map fun p => rowD (toldPart h b p)))), none, none, none]) (ρ := [some (.dat hd), x1, x2, x3, some (.dat (boxD b)), some (.dat (.list ((List.range h.length).map fun p => rowD (toldPart h b p)))), none, none, none])
    (List.range h.length) (fun p => .tuple [rowD (partAt b p), rowD (toldPart h b p)]) (fun p => rowD (srtN (partAt b p ++ toldPart h b p))) (by
      simp [evI, evE]
      rw [hb, hz]) (fun p hp => by
      have hp' := List.mem_range.mp hp
      have l1 : (partAt b p).length ≤ 16 := Nat.le_trans (asc_len (i.asc p hp') (i.at_ p hp')) (w.sz hp').2
      have l2 : (toldPart h b p).length ≤ 16 := toldPart_few w (i.inb w) hp'
      have hlen : (srtN (partAt b p ++ toldPart h b p)).length < 64 := by
        refine Nat.lt_of_le_of_lt (asc_len (n := szAt h p) (asc_srtN _) fun x hx => ?_) (Nat.lt_of_le_of_lt (w.sz hp').2 (by decide))
        rcases List.mem_append.mp (mem_srtN.mp hx) with h1 | h1
        · exact i.at_ p hp' x h1
        · obtain ⟨r, hr, rfl⟩ := List.mem_map.mp (mem_srtN.mp h1)
          exact tell_lt w (i.inb w) hp' hr
      obtain ⟨r2, d1, d2⟩ := ev_callR (φ := φ) (f := "set_of") (cs := [.lst [.star (.var 7), .star (.var 8)]]) (ρ := [some (.dat hd), x1, x2, x3, some (.dat (boxD b)), some (.dat (.list ((List.range h.length).map fun p => rowD (toldPart h b p)))), none, some (.dat (rowD (partAt b p))), some (.dat (rowD (toldPart h b p)))])
        (ρ' := [some (.dat hd), x1, x2, x3, some (.dat (boxD b)), some (.dat (.list ((List.range h.length).map fun p => rowD (toldPart h b p)))), none, some (.dat (rowD (partAt b p))), some (.dat (rowD (toldPart h b p)))])
        (as := [.dat (.list ((partAt b p ++ toldPart h b p).map ic))]) (by
          have hl : (partAt b p).length + (toldPart h b p).length ≤ szl := Nat.le_trans (Nat.add_le_add l1 l2) (by decide)
          simp [evA, bArg, evE, evL, upB, hl]) (S _ (partAt b p ++ toldPart h b p) rfl (by rw [List.length_append]; omega) hlen)
      rw [show wipeR [some (.dat hd), x1, x2, x3, some (.dat (boxD b)), some (.dat (.list ((List.range h.length).map fun p => rowD (toldPart h b p)))), none, none, none] [7, 8] = [some (.dat hd), x1, x2, x3, some (.dat (boxD b)), some (.dat (.list ((List.range h.length).map fun p => rowD (toldPart h b p)))), none, none, none] from rfl, setT_two]
      simp only [Option.bind_some, List.set_cons_succ, List.set_cons_zero, d1, Option.map_some, d2]
      rfl)
  exact ev_prim (os := [.inr (.list ((List.range h.length).map fun p => rowD (srtN (partAt b p ++ toldPart h b p))))]) (ds := [.list ((List.range h.length).map fun p => rowD (srtN (partAt b p ++ toldPart h b p)))]) (by simp [evO, key]) (by simp [rdOs, rdO]) (by
    rw [pr_tuple rfl]
    simp only [growStep, joinB, List.map_map]
    congr 3
    rw [List.map_map]
    refine List.map_congr_left fun p hp => ?_
    simp only [Function.comp, toldBox, partAt_map (List.mem_range.mp hp)])
end K10

set_option Elab.async false
set_option linter.all false
set_option autoImplicit false
set_option maxRecDepth 100000
set_option maxHeartbeats 4000000
namespace K10
open PySem LI
/-! ### laps of growing -/
def seqB (f : Nat → List (List Nat)) (k : Nat) : List PyData := (List.range (k + 1)).map fun j => boxD (f j)
theorem seqB_succ (f : Nat → List (List Nat)) (k : Nat) : seqB f (k + 1) = seqB f k ++ [boxD (f (k + 1))] := by
  unfold seqB
  rw [List.range_succ, List.map_append]; rfl
theorem seqB_len (f : Nat → List (List Nat)) (k : Nat) : (seqB f k).length = k + 1 := by simp [seqB]
theorem seqB_last (f : Nat → List (List Nat)) (k : Nat) : atD (seqB f k) (-1) = some (boxD (f k)) := by
  refine atD_last ?_
  rw [List.getLast?_eq_getElem?, seqB_len]
  simp [seqB]
theorem seqB_prev (f : Nat → List (List Nat)) (k : Nat) : atD (seqB f (k + 1)) (-2) = some (boxD (f k)) := by
  unfold atD ixD
  rw [seqB_len, if_neg (by omega), if_pos (by omega), Option.bind_some]
  have e : ((-2 : Int) + ((k + 1 + 1 : Nat) : Int)).toNat = k := by omega
  rw [e]
  unfold seqB
  rw [List.getElem?_map, List.getElem?_range (by omega)]; rfl
/-- the test of both whiles: fewer than two, or the last two differ -/
theorem ev_cst {φ : Fn} {d : PyData} {ρ : Rho} : evE φ (.cst d) ρ = some (.dat d, ρ) := by simp only [evE]
theorem ev_test {φ : Fn} {ρ : Rho} {s : Nat} {t : Option Nat} (f : Nat → List (List Nat)) (k : Nat) (h : ρ[s]? = some (some (.own t (.list (seqB f k))))) :
    evT φ (.orE (.prim .lt [.prim .len [.var s], .cst (.int (2))]) (.prim .ne [.prim .idx [.var s, .prim .neg [.cst (.int 1)]], .prim .idx [.var s, .prim .neg [.cst (.int (2))]]])) ρ = some (decide (k = 0) || !decide (f k = f (k - 1)), ρ) := by
  have o : ∀ {c : E} {v : SV}, isV c = false → evE φ c ρ = some (v, ρ) → evO φ [.var s, c] ρ = some ([.inl s, .inr v.d], ρ) := by
    intro c v hc hv
    cases c <;> first | (simp [isV] at hc; done) | simp [evO, h, hv]
  have a0 : evE φ (.prim .len [.var s]) ρ = some (.dat (.int ((k + 1 : Nat) : Int)), ρ) := ev_prim (os := [.inl s]) (ds := [.list (seqB f k)]) (by simp [evO, h]) (by simp [rdOs, rdO, h]) (by rw [pr_len rfl, seqB_len])
  have a1 : evE φ (.prim .lt [.prim .len [.var s], .cst (.int (2))]) ρ = some (.dat (.bool (decide (((k + 1 : Nat) : Int) < 2))), ρ) := ev_prim (os := [.inr (.int ((k + 1 : Nat) : Int)), .inr (.int 2)]) (ds := [.int ((k + 1 : Nat) : Int), .int 2]) (by simp only [evO, a0, Option.bind_some, ev_cst, Option.map_some, sv_dat]) (by simp [rdOs, rdO]) rfl
  cases k with
  | zero =>
    have c := ev_or (b := .prim .ne [.prim .idx [.var s, .prim .neg [.cst (.int 1)]], .prim .idx [.var s, .prim .neg [.cst (.int (2))]]]) (t := true) a1 (by simp [truth])
    exact ev_T c (by simp [truth])
  | succ k =>
    have b1 : evE φ (.prim .idx [.var s, .prim .neg [.cst (.int 1)]]) ρ = some (.dat (boxD (f (k + 1))), ρ) := ev_prim (os := [.inl s, .inr (.int (-1))]) (ds := [.list (seqB f (k + 1)), .int (-1)]) (o rfl (ev_neg 1)) (by simp [rdOs, rdO, h]) (by rw [pr_idx rfl, seqB_last, Option.map_some])
    have b2 : evE φ (.prim .idx [.var s, .prim .neg [.cst (.int (2))]]) ρ = some (.dat (boxD (f k)), ρ) := ev_prim (os := [.inl s, .inr (.int (-2))]) (ds := [.list (seqB f (k + 1)), .int (-2)]) (o rfl (ev_neg 2)) (by simp [rdOs, rdO, h]) (by rw [pr_idx rfl, seqB_prev, Option.map_some])
    have b3 : evE φ (.prim .ne [.prim .idx [.var s, .prim .neg [.cst (.int 1)]], .prim .idx [.var s, .prim .neg [.cst (.int (2))]]]) ρ = some (.dat (.bool (!decide (f (k + 1) = f k))), ρ) := ev_prim (os := [.inr (boxD (f (k + 1))), .inr (boxD (f k))]) (ds := [boxD (f (k + 1)), boxD (f k)]) (by simp only [evO, b1, Option.bind_some, b2, Option.map_some, sv_dat]) (by simp [rdOs, rdO]) (pr_ne_box _ _)
    have c := ev_or (b := .prim .ne [.prim .idx [.var s, .prim .neg [.cst (.int 1)]], .prim .idx [.var s, .prim .neg [.cst (.int (2))]]]) (t := false) a1 (by rw [sv_dat, decide_eq_false (by omega)]; rfl)
    simp only [Bool.false_eq_true, if_false, b3] at c
    exact ev_T c (by simp [truth])
end K10

set_option Elab.async false
set_option linter.all false
set_option autoImplicit false
set_option maxRecDepth 100000
set_option maxHeartbeats 4000000
namespace K10
open PySem LI
theorem evE_lst {φ : Fn} {es : List E} {ρ : Rho} : evE φ (.lst es) ρ = (evL φ es ρ).bind fun p => if p.1.length ≤ szl then some (.own none (.list p.1), p.2) else none := by simp only [evE]
theorem evS_app {φ : Fn} {i : Nat} {e : E} {ρ ρ1 : Rho} {v : SV} {t : Option Nat} {ds0 ds : List PyData} {t0 : Option Nat} (h0 : ρ[i]? = some (some (.own t0 (.list ds0)))) (h : evE φ e ρ = some (v, ρ1)) (h1 : ρ1[i]? = some (some (.own t (.list ds)))) (hl : ds.length < szl) : evS φ (.app i e) ρ = some (.nx, ρ1.set i (some (.own t (.list (ds ++ [v.d]))))) := by
  have o : ownL ρ i = true := by simp [ownL, h0]
  simp only [evS, o, if_true, h, Option.bind_some, h1]
  exact if_pos hl
abbrev gst (hd bd : PyData) (l : List PyData) (x4 x5 : Option SV) : Rho := [some (.dat hd), some (.dat bd), some (.dat (.tuple [])), some (.own none (.list l)), x4, x5, none, none, none]
theorem lap_body {φ : Fn} (S1 : SpPart φ) (S2 : SpSet φ) {hd bd : PyData} {h : List Fd} {f : Nat → List (List Nat)} {k : Nat} {x4 x5 : Option SV} (w : Wf h) (h3 : ∀ f ∈ h, f.eyes.length ≤ 2) (hh : HouseR hd h) (i : IsBox h (f k)) (hf : f (k + 1) = growStep h (f k)) (hk : k ≤ 1000) :
    ∃ x4' x5', evSs φ [.asg 4 (.prim .idx [.var 3, .prim .neg [.cst (.int 1)]]), .asg 5 (.lc (.ite (.prim .isin [.var 6, .var 2]) (.tup []) (.call "told_part" [] [] [.var 0, .var 4, .var 6])) (.name 6) (.rng1 (.prim .len [.var 0])) none [6]), .app 3 (.prim .tuple [.lc (.call "set_of" [] [] [.lst [.star (.var 7), .star (.var 8)]]) (.tup [.name 7, .name 8]) (.zip (.var 4) (.var 5)) none [7, 8]])] (gst hd bd (seqB f k) x4 x5) = some (.nx, gst hd bd (seqB f (k + 1)) x4' x5') := by
  have b1 : evE φ (.prim .idx [.var 3, .prim .neg [.cst (.int 1)]]) (gst hd bd (seqB f k) x4 x5) = some (.dat (boxD (f k)), gst hd bd (seqB f k) x4 x5) :=
    ev_prim (os := [.inl 3, .inr (.int (-1))]) (ds := [.list (seqB f k), .int (-1)]) (by simp [evO, ev_neg]) (by simp [rdOs, rdO]) (by rw [pr_idx rfl, seqB_last, Option.map_some])
  have s1 := evS_asg (i := 4) b1
  have e2 := ev_told (φ := φ) S1 (hd := hd) (b := f k) (x1 := some (.dat bd)) (x3 := some (.own none (.list (seqB f k)))) (x5 := x5) w h3 hh i
  have s2 := evS_asg (i := 5) e2
  have e3 := ev_join (φ := φ) S2 (hd := hd) (b := f k) (x1 := some (.dat bd)) (x2 := some (.dat (.tuple []))) (x3 := some (.own none (.list (seqB f k)))) w h3 i
  have hl : (seqB f k).length < szl := by rw [seqB_len]; exact Nat.lt_of_le_of_lt (Nat.succ_le_succ hk) (by decide)
  have s3 := evS_app (i := 3) (t0 := none) (ds0 := seqB f k) (t := none) (ds := seqB f k) rfl e3 rfl hl
  refine ⟨some (.dat (boxD (f k))), some (.dat (.list ((List.range h.length).map fun p => rowD (toldPart h (f k) p)))), ?_⟩
  rw [evSs_nx s1]
  simp only [setV, List.set_cons_succ, List.set_cons_zero] at s2 s3 ⊢
  rw [evSs_nx s2, evSs_nx s3]
  simp only [evSs, seqB_succ, hf, sv_dat]
theorem itG_size {h : List Fd} (w : Wf h) {b : List (List Nat)} (i : IsBox h b) (k : Nat) (ne : itG h b (k + 1) ≠ itG h b k) : sizeB h (itG h b k) < sizeB h (itG h b (k + 1)) :=
  size_lt (itG_box w i k) (itG_box w i (k + 1)) grow_sub fun e => ne e.symm
/-- the while of laps_grown -/
theorem lap_loop {φ : Fn} (S1 : SpPart φ) (S2 : SpSet φ) {hd bd : PyData} {h : List Fd} {b : List (List Nat)} (w : Wf h) (h3 : ∀ f ∈ h, f.eyes.length ≤ 2) (hh : HouseR hd h) (i : IsBox h b) :
    ∃ k x4 x5, itG h b (k + 1) = itG h b k ∧ evS φ (.whileS (.orE (.prim .lt [.prim .len [.var 3], .cst (.int (2))]) (.prim .ne [.prim .idx [.var 3, .prim .neg [.cst (.int 1)]], .prim .idx [.var 3, .prim .neg [.cst (.int (2))]]])) [.asg 4 (.prim .idx [.var 3, .prim .neg [.cst (.int 1)]]), .asg 5 (.lc (.ite (.prim .isin [.var 6, .var 2]) (.tup []) (.call "told_part" [] [] [.var 0, .var 4, .var 6])) (.name 6) (.rng1 (.prim .len [.var 0])) none [6]), .app 3 (.prim .tuple [.lc (.call "set_of" [] [] [.lst [.star (.var 7), .star (.var 8)]]) (.tup [.name 7, .name 8]) (.zip (.var 4) (.var 5)) none [7, 8]])])
      (gst hd bd (seqB (itG h b) 0) none none) = some (.nx, gst hd bd (seqB (itG h b) (k + 1)) x4 x5) := by
  have key := loopWh_inv (c := fun r1 => evT φ (.orE (.prim .lt [.prim .len [.var 3], .cst (.int (2))]) (.prim .ne [.prim .idx [.var 3, .prim .neg [.cst (.int 1)]], .prim .idx [.var 3, .prim .neg [.cst (.int (2))]]])) r1)
    (f := fun r1 => evSs φ [.asg 4 (.prim .idx [.var 3, .prim .neg [.cst (.int 1)]]), .asg 5 (.lc (.ite (.prim .isin [.var 6, .var 2]) (.tup []) (.call "told_part" [] [] [.var 0, .var 4, .var 6])) (.name 6) (.rng1 (.prim .len [.var 0])) none [6]), .app 3 (.prim .tuple [.lc (.call "set_of" [] [] [.lst [.star (.var 7), .star (.var 8)]]) (.tup [.name 7, .name 8]) (.zip (.var 4) (.var 5)) none [7, 8]])] r1)
    (fun m ρ => ∃ k x4 x5, ρ = gst hd bd (seqB (itG h b) k) x4 x5 ∧ ((k = 0 ∧ m = 300) ∨ ∃ j, k = j + 1 ∧ m + sizeB h (itG h b j) = 258 ∧ j ≤ sizeB h (itG h b j)))
    (fun ρ => ∃ k x4 x5, ρ = gst hd bd (seqB (itG h b) (k + 1)) x4 x5 ∧ itG h b (k + 1) = itG h b k) ?_ 300 (gst hd bd (seqB (itG h b) 0) none none) wfuel ⟨0, none, none, rfl, .inl ⟨rfl, rfl⟩⟩ (by decide)
  · obtain ⟨ρ', k1, k, x4, x5, rfl, k2⟩ := key
    exact ⟨k, x4, x5, k2, evS_while k1⟩
  · rintro m ρ ⟨k, x4, x5, rfl, hm⟩
    have t := ev_test (φ := φ) (ρ := gst hd bd (seqB (itG h b) k) x4 x5) (s := 3) (t := none) (itG h b) k rfl
    rcases hm with ⟨rfl, rfl⟩ | ⟨j, rfl, hm, hj⟩
    · obtain ⟨x4', x5', e⟩ := lap_body S1 S2 (hd := hd) (bd := bd) (f := itG h b) (k := 0) (x4 := x4) (x5 := x5) w h3 hh i rfl (by decide)
      have hs := size_le w i
      exact .inr ⟨_, _, 258 - sizeB h (itG h b 0), t, e, by omega, 1, x4', x5', rfl, .inr ⟨0, rfl, by have : sizeB h (itG h b 0) ≤ 256 := hs; omega, Nat.zero_le _⟩⟩
    · by_cases q : itG h b (j + 1) = itG h b j
      · refine .inl ⟨_, ?_, j, x4, x5, rfl, q⟩
        rw [t]
        simp [q]
      · have hs := size_le w (itG_box w i (j + 1))
        have hlt := itG_size w i j q
        obtain ⟨x4', x5', e⟩ := lap_body S1 S2 (hd := hd) (bd := bd) (f := itG h b) (k := j + 1) (x4 := x4) (x5 := x5) w h3 hh (itG_box w i (j + 1)) rfl (by omega)
        refine .inr ⟨_, _, 258 - sizeB h (itG h b (j + 1)), ?_, e, by omega, j + 2, x4', x5', rfl, .inr ⟨j + 1, rfl, by omega, by omega⟩⟩
        rw [t]
        simp [q]
theorem cut_last {xs : List PyData} {x : PyData} : cutD (xs ++ [x]) none (some (-1)) = xs := by
  unfold cutD sIxD
  have e : ((-1 : Int) + ((xs ++ [x]).length : Int)).toNat = xs.length := by rw [List.length_append, List.length_singleton]; omega
  simp only [e]
  rw [if_pos (by decide)]
  simp
theorem ev_cutLast {φ : Fn} {ρ : Rho} {s : Nat} {t : Option Nat} {xs : List PyData} {x : PyData} (h : ρ[s]? = some (some (.own t (.list (xs ++ [x]))))) : evE φ (.prim (.sl false true) [.var s, .prim .neg [.cst (.int 1)]]) ρ = some (.own none (.list xs), ρ) :=
  ev_prim (os := [.inl s, .inr (.int (-1))]) (ds := [.list (xs ++ [x]), .int (-1)]) (by simp [evO, h, ev_neg]) (by simp [rdOs, rdO, h]) (by
    show (slParts false true [.int (-1)]).bind (fun p => dls (cutD (xs ++ [x]) p.1 p.2)) = _
    simp only [slParts, Option.bind_some, cut_last]; rfl)
/-- what laps_grown answers -/
theorem run_laps {φ : Fn} (S0 : SpTupBox φ) (S1 : SpPart φ) (S2 : SpSet φ) {hd bd : PyData} {h : List Fd} {b : List (List Nat)} (w : Wf h) (h3 : ∀ f ∈ h, f.eyes.length ≤ 2) (hh : HouseR hd h) (hb : BoxR bd b) (i : IsBox h b) :
    ∃ k, itG h b (k + 1) = itG h b k ∧ Runs φ c_laps_grown [.dat hd, .dat bd, .dat (.tuple [])] (.list (seqB (itG h b) k)) := by
  obtain ⟨k, x4, x5, hk, e⟩ := lap_loop S1 S2 (bd := bd) w h3 hh i
  obtain ⟨r2, d1, d2⟩ := ev_callR (φ := φ) (f := "tupled") (cs := [.var 1]) (ρ := [some (.dat hd), some (.dat bd), some (.dat (.tuple [])), none, none, none, none, none, none]) (ρ' := [some (.dat hd), some (.dat bd), some (.dat (.tuple [])), none, none, none, none, none, none])
    (as := [.dat bd]) (by simp [evA, bArg, evE, upB]) (S0 bd b hb)
  have s1 : evS φ (.asg 3 (.lst [.call "tupled" [] [] [.var 1]])) [some (.dat hd), some (.dat bd), some (.dat (.tuple [])), none, none, none, none, none, none] = some (.nx, gst hd bd (seqB (itG h b) 0) none none) := by
    have z : evE φ (.lst [.call "tupled" [] [] [.var 1]]) [some (.dat hd), some (.dat bd), some (.dat (.tuple [])), none, none, none, none, none, none] = some (.own none (.list [boxD b]), [some (.dat hd), some (.dat bd), some (.dat (.tuple [])), none, none, none, none, none, none]) := by
      simp [evE_lst, evL, d1, d2, szl]
    rw [evS_asg z]
    rfl
  refine ⟨k, hk, ?_⟩
  refine runs_of (φ := φ) (c := c_laps_grown) (as := [.dat hd, .dat bd, .dat (.tuple [])]) (v := .own none (.list (seqB (itG h b) k))) (ρ' := gst hd bd (seqB (itG h b) (k + 1)) x4 x5) rfl ?_
  show evSs φ [_, _, _] [some (.dat hd), some (.dat bd), some (.dat (.tuple [])), none, none, none, none, none, none] = _
  rw [evSs_nx s1, evSs_nx e]
  refine evSs_ret ?_
  have z := ev_cutLast (φ := φ) (ρ := gst hd bd (seqB (itG h b) (k + 1)) x4 x5) (s := 3) (t := none) (xs := seqB (itG h b) k) (x := boxD (itG h b (k + 1))) (by rw [← seqB_succ]; rfl)
  simp only [evS, z, Option.map_some]
end K10

set_option Elab.async false
set_option linter.all false
set_option autoImplicit false
set_option maxRecDepth 100000
set_option maxHeartbeats 4000000
namespace K10
open PySem LI
def SpLaps (φ : Fn) : Prop := ∀ (hd bd : PyData) (h : List Fd) (b : List (List Nat)), Wf h → (∀ f ∈ h, f.eyes.length ≤ 2) → HouseR hd h → BoxR bd b → IsBox h b → ∃ k, itG h b (k + 1) = itG h b k ∧ Rets φ "laps_grown" [.dat hd, .dat bd, .dat (.tuple [])] (.list (seqB (itG h b) k))
/-- the grown box -/
structure Grown (h : List Fd) (b g : List (List Nat)) : Prop where
  box : IsBox h g
  sub : Sub h b g
  shut : Sub h (toldBox h g) g
  least : ∀ c, Sub h b c → Sub h (toldBox h c) c → Sub h g c
theorem itG_sub {h : List Fd} {b : List (List Nat)} : ∀ k, Sub h b (itG h b k)
  | 0 => Sub.refl _
  | k + 1 => (itG_sub k).trans grow_sub
theorem itG_least {h : List Fd} (w : Wf h) {b c : List (List Nat)} (s : Sub h b c) (t : Sub h (toldBox h c) c) : ∀ k, Sub h (itG h b k) c
  | 0 => s
  | k + 1 => fun p hp x hx => by
    rcases (join_mem hp).mp hx with h1 | h1
    · exact itG_least w s t k p hp x h1
    · exact t p hp x (told_mono w (itG_least w s t k) p hp x h1)
theorem grown_of {h : List Fd} (w : Wf h) {b : List (List Nat)} (i : IsBox h b) {k : Nat} (e : itG h b (k + 1) = itG h b k) : Grown h b (itG h b k) := by
  refine ⟨itG_box w i k, itG_sub k, fun p hp x hx => ?_, fun c s t => itG_least w s t k⟩
  rw [← e]
  exact (join_mem hp).mpr (.inr hx)
theorem run_grown {φ : Fn} (S : SpLaps φ) {hd bd : PyData} {h : List Fd} {b : List (List Nat)} (w : Wf h) (h3 : ∀ f ∈ h, f.eyes.length ≤ 2) (hh : HouseR hd h) (hb : BoxR bd b) (i : IsBox h b) :
    ∃ g, Grown h b g ∧ Runs φ c_grown [.dat hd, .dat bd] (boxD g) := by
  obtain ⟨k, hk, R⟩ := S hd bd h b w h3 hh hb i
  refine ⟨itG h b k, grown_of w i hk, ?_⟩
  obtain ⟨r2, d1, d2⟩ := ev_callR (φ := φ) (f := "laps_grown") (cs := [.var 0, .var 1, .tup []]) (ρ := [some (.dat hd), some (.dat bd)]) (ρ' := [some (.dat hd), some (.dat bd)]) (as := [.dat hd, .dat bd, .dat (.tuple [])]) (by simp [evA, bArg, evE, evL, upB, szl]) R
  have z : evE φ (.prim .idx [.call "laps_grown" [] [] [.var 0, .var 1, .tup []], .prim .neg [.cst (.int 1)]]) [some (.dat hd), some (.dat bd)] = some (.dat (boxD (itG h b k)), [some (.dat hd), some (.dat bd)]) :=
    ev_prim (os := [.inr (.list (seqB (itG h b) k)), .inr (.int (-1))]) (ds := [.list (seqB (itG h b) k), .int (-1)]) (by simp only [evO, d1, Option.bind_some, ev_neg, Option.map_some, sv_dat, d2]) (by simp [rdOs, rdO]) (by rw [pr_idx rfl, seqB_last, Option.map_some])
  refine runs_of (φ := φ) (c := c_grown) (as := [.dat hd, .dat bd]) (v := .dat (boxD (itG h b k))) (ρ' := [some (.dat hd), some (.dat bd)]) rfl ?_
  show evSs φ [_] [some (.dat hd), some (.dat bd)] = _
  exact evSs_ret (by simp only [evS, z, Option.map_some])
/-! ### rounds -/
def itR (h : List Fd) (g : List (List Nat)) : Nat → List (List Nat)
  | 0 => g
  | k + 1 => toldBox h (itR h g k)
theorem itR_box {h : List Fd} (w : Wf h) {g : List (List Nat)} (i : IsBox h g) : ∀ k, IsBox h (itR h g k)
  | 0 => i
  | k + 1 => told_box w (itR_box w i k)
theorem itR_down {h : List Fd} (w : Wf h) {g : List (List Nat)} (s : Sub h (toldBox h g) g) : ∀ k, Sub h (itR h g (k + 1)) (itR h g k)
  | 0 => s
  | k + 1 => told_mono w (itR_down w s k)
theorem itR_lasting {h : List Fd} (w : Wf h) {g c : List (List Nat)} (s : Sub h c g) (t : Sub h c (toldBox h c)) : ∀ k, Sub h c (itR h g k)
  | 0 => s
  | k + 1 => lasting_in w t (itR_lasting w s t k)
/-- the limit: told is itself, and above all that lasts -/
structure Limit (h : List Fd) (g l : List (List Nat)) : Prop where
  box : IsBox h l
  told : toldBox h l = l
  sub : Sub h l g
  great : ∀ c, Sub h c g → Sub h c (toldBox h c) → Sub h c l
theorem itR_sub {h : List Fd} (w : Wf h) {g : List (List Nat)} (s : Sub h (toldBox h g) g) : ∀ k, Sub h (itR h g k) g
  | 0 => Sub.refl _
  | k + 1 => (itR_down w s k).trans (itR_sub w s k)
theorem limit_of {h : List Fd} (w : Wf h) {g : List (List Nat)} (i : IsBox h g) (s : Sub h (toldBox h g) g) {k : Nat} (e : itR h g (k + 1) = itR h g k) : Limit h g (itR h g k) :=
  ⟨itR_box w i k, e, itR_sub w s k, fun c a b => itR_lasting w a b k⟩
end K10

set_option Elab.async false
set_option linter.all false
set_option autoImplicit false
set_option maxRecDepth 100000
set_option maxHeartbeats 4000000
namespace K10
open PySem LI
def SpTold (φ : Fn) : Prop := ∀ (hd bd : PyData) (h : List Fd) (b : List (List Nat)), Wf h → (∀ f ∈ h, f.eyes.length ≤ 2) → HouseR hd h → BoxR bd b → InBox h b → Rets φ "told_box" [.dat hd, .dat bd] (boxD (toldBox h b))
def SpGrown (φ : Fn) : Prop := ∀ (hd bd : PyData) (h : List Fd) (b : List (List Nat)), Wf h → (∀ f ∈ h, f.eyes.length ≤ 2) → HouseR hd h → BoxR bd b → IsBox h b → ∃ g, Grown h b g ∧ Rets φ "grown" [.dat hd, .dat bd] (boxD g)
abbrev rst (hd bd : PyData) (l : List PyData) : Rho := [some (.dat hd), some (.dat bd), some (.own none (.list l))]
theorem round_body {φ : Fn} (S : SpTold φ) {hd bd : PyData} {h : List Fd} {f : Nat → List (List Nat)} {k : Nat} (w : Wf h) (h3 : ∀ f ∈ h, f.eyes.length ≤ 2) (hh : HouseR hd h) (i : IsBox h (f k)) (hf : f (k + 1) = toldBox h (f k)) (hk : k ≤ 1000) :
    evSs φ [.app 2 (.call "told_box" [] [] [.var 0, .prim .idx [.var 2, .prim .neg [.cst (.int 1)]]])] (rst hd bd (seqB f k)) = some (.nx, rst hd bd (seqB f (k + 1))) := by
  have b1 : evE φ (.prim .idx [.var 2, .prim .neg [.cst (.int 1)]]) (rst hd bd (seqB f k)) = some (.dat (boxD (f k)), rst hd bd (seqB f k)) :=
    ev_prim (os := [.inl 2, .inr (.int (-1))]) (ds := [.list (seqB f k), .int (-1)]) (by simp [evO, ev_neg]) (by simp [rdOs, rdO]) (by rw [pr_idx rfl, seqB_last, Option.map_some])
  obtain ⟨r2, d1, d2⟩ := ev_callR (φ := φ) (f := "told_box") (cs := [.var 0, .prim .idx [.var 2, .prim .neg [.cst (.int 1)]]]) (ρ := rst hd bd (seqB f k)) (ρ' := rst hd bd (seqB f k)) (as := [.dat hd, .dat (boxD (f k))]) (by
    have v0 : evE φ (.var 0) (rst hd bd (seqB f k)) = some (.dat hd, rst hd bd (seqB f k)) := ev_var rfl
    simp [evA, bArg, v0, b1, upB]) (S hd (boxD (f k)) h (f k) w h3 hh (box_seq _) (i.inb w))
  have hl : (seqB f k).length < szl := by rw [seqB_len]; exact Nat.lt_of_le_of_lt (Nat.succ_le_succ hk) (by decide)
  have s3 := evS_app (i := 2) (t0 := none) (ds0 := seqB f k) (t := none) (ds := seqB f k) rfl d1 rfl hl
  rw [evSs_nx s3]
  simp only [evSs, seqB_succ, hf, d2, List.set_cons_succ, List.set_cons_zero]
theorem round_loop {φ : Fn} (S : SpTold φ) {hd bd : PyData} {h : List Fd} {g : List (List Nat)} (w : Wf h) (h3 : ∀ f ∈ h, f.eyes.length ≤ 2) (hh : HouseR hd h) (i : IsBox h g) (sh : Sub h (toldBox h g) g) :
    ∃ k, itR h g (k + 1) = itR h g k ∧ evS φ (.whileS (.orE (.prim .lt [.prim .len [.var 2], .cst (.int (2))]) (.prim .ne [.prim .idx [.var 2, .prim .neg [.cst (.int 1)]], .prim .idx [.var 2, .prim .neg [.cst (.int (2))]]])) [.app 2 (.call "told_box" [] [] [.var 0, .prim .idx [.var 2, .prim .neg [.cst (.int 1)]]])])
      (rst hd bd (seqB (itR h g) 0)) = some (.nx, rst hd bd (seqB (itR h g) (k + 1))) := by
  have key := loopWh_inv (c := fun r1 => evT φ (.orE (.prim .lt [.prim .len [.var 2], .cst (.int (2))]) (.prim .ne [.prim .idx [.var 2, .prim .neg [.cst (.int 1)]], .prim .idx [.var 2, .prim .neg [.cst (.int (2))]]])) r1)
    (f := fun r1 => evSs φ [.app 2 (.call "told_box" [] [] [.var 0, .prim .idx [.var 2, .prim .neg [.cst (.int 1)]]])] r1)
    (fun m ρ => ∃ k, ρ = rst hd bd (seqB (itR h g) k) ∧ ((k = 0 ∧ m = 300) ∨ ∃ j, k = j + 1 ∧ m = sizeB h (itR h g j) ∧ j + sizeB h (itR h g j) ≤ 256))
    (fun ρ => ∃ k, ρ = rst hd bd (seqB (itR h g) (k + 1)) ∧ itR h g (k + 1) = itR h g k) ?_ 300 (rst hd bd (seqB (itR h g) 0)) wfuel ⟨0, rfl, .inl ⟨rfl, rfl⟩⟩ (by decide)
  · obtain ⟨ρ', k1, k, rfl, k2⟩ := key
    exact ⟨k, k2, evS_while k1⟩
  · rintro m ρ ⟨k, rfl, hm⟩
    have t := ev_test (φ := φ) (ρ := rst hd bd (seqB (itR h g) k)) (s := 2) (t := none) (itR h g) k rfl
    rcases hm with ⟨rfl, rfl⟩ | ⟨j, rfl, rfl, hj⟩
    · have e := round_body S (hd := hd) (bd := bd) (f := itR h g) (k := 0) w h3 hh i rfl (by decide)
      have hs : sizeB h (itR h g 0) ≤ 256 := size_le w i
      exact .inr ⟨_, _, sizeB h (itR h g 0), t, e, by omega, 1, rfl, .inr ⟨0, rfl, rfl, by omega⟩⟩
    · by_cases q : itR h g (j + 1) = itR h g j
      · refine .inl ⟨_, ?_, j, rfl, q⟩
        rw [t]
        simp [q]
      · have hlt : sizeB h (itR h g (j + 1)) < sizeB h (itR h g j) := size_lt (itR_box w i (j + 1)) (itR_box w i j) (itR_down w sh j) q
        have e := round_body S (hd := hd) (bd := bd) (f := itR h g) (k := j + 1) w h3 hh (itR_box w i (j + 1)) rfl (by omega)
        refine .inr ⟨_, _, sizeB h (itR h g (j + 1)), ?_, e, hlt, j + 2, rfl, .inr ⟨j + 1, rfl, rfl, by omega⟩⟩
        rw [t]
        simp [q]
end K10

set_option Elab.async false
set_option linter.all false
set_option autoImplicit false
set_option maxRecDepth 100000
set_option maxHeartbeats 4000000
namespace K10
open PySem LI
theorem run_rounds {φ : Fn} (S0 : SpGrown φ) (S : SpTold φ) {hd bd : PyData} {h : List Fd} {b : List (List Nat)} (w : Wf h) (h3 : ∀ f ∈ h, f.eyes.length ≤ 2) (hh : HouseR hd h) (hb : BoxR bd b) (i : IsBox h b) :
    ∃ g k, Grown h b g ∧ itR h g (k + 1) = itR h g k ∧ Runs φ c_rounds [.dat hd, .dat bd] (.list (seqB (itR h g) k)) := by
  obtain ⟨g, G, R⟩ := S0 hd bd h b w h3 hh hb i
  obtain ⟨k, hk, e⟩ := round_loop S (bd := bd) w h3 hh G.box G.shut
  obtain ⟨r2, d1, d2⟩ := ev_callR (φ := φ) (f := "grown") (cs := [.var 0, .var 1]) (ρ := [some (.dat hd), some (.dat bd), none]) (ρ' := [some (.dat hd), some (.dat bd), none]) (as := [.dat hd, .dat bd]) (by simp [evA, bArg, evE, upB]) R
  have s1 : evS φ (.asg 2 (.lst [.call "grown" [] [] [.var 0, .var 1]])) [some (.dat hd), some (.dat bd), none] = some (.nx, rst hd bd (seqB (itR h g) 0)) := by
    have z : evE φ (.lst [.call "grown" [] [] [.var 0, .var 1]]) [some (.dat hd), some (.dat bd), none] = some (.own none (.list [boxD g]), [some (.dat hd), some (.dat bd), none]) := by
      simp [evE_lst, evL, d1, d2, szl]
    rw [evS_asg z]
    rfl
  refine ⟨g, k, G, hk, ?_⟩
  refine runs_of (φ := φ) (c := c_rounds) (as := [.dat hd, .dat bd]) (v := .own none (.list (seqB (itR h g) k))) (ρ' := rst hd bd (seqB (itR h g) (k + 1))) rfl ?_
  show evSs φ [_, _, _] [some (.dat hd), some (.dat bd), none] = _
  rw [evSs_nx s1, evSs_nx e]
  refine evSs_ret ?_
  have z := ev_cutLast (φ := φ) (ρ := rst hd bd (seqB (itR h g) (k + 1))) (s := 2) (t := none) (xs := seqB (itR h g) k) (x := boxD (itR h g (k + 1))) (by rw [← seqB_succ]; rfl)
  simp only [evS, z, Option.map_some]
def SpRounds (φ : Fn) : Prop := ∀ (hd bd : PyData) (h : List Fd) (b : List (List Nat)), Wf h → (∀ f ∈ h, f.eyes.length ≤ 2) → HouseR hd h → BoxR bd b → IsBox h b → ∃ g k, Grown h b g ∧ itR h g (k + 1) = itR h g k ∧ Rets φ "rounds" [.dat hd, .dat bd] (.list (seqB (itR h g) k))
theorem run_limit {φ : Fn} (S : SpRounds φ) {hd bd : PyData} {h : List Fd} {b : List (List Nat)} (w : Wf h) (h3 : ∀ f ∈ h, f.eyes.length ≤ 2) (hh : HouseR hd h) (hb : BoxR bd b) (i : IsBox h b) :
    ∃ g l, Grown h b g ∧ Limit h g l ∧ Runs φ c_limit [.dat hd, .dat bd] (boxD l) := by
  obtain ⟨g, k, G, hk, R⟩ := S hd bd h b w h3 hh hb i
  refine ⟨g, itR h g k, G, limit_of w G.box G.shut hk, ?_⟩
  obtain ⟨r2, d1, d2⟩ := ev_callR (φ := φ) (f := "rounds") (cs := [.var 0, .var 1]) (ρ := [some (.dat hd), some (.dat bd)]) (ρ' := [some (.dat hd), some (.dat bd)]) (as := [.dat hd, .dat bd]) (by simp [evA, bArg, evE, upB]) R
  have z : evE φ (.prim .idx [.call "rounds" [] [] [.var 0, .var 1], .prim .neg [.cst (.int 1)]]) [some (.dat hd), some (.dat bd)] = some (.dat (boxD (itR h g k)), [some (.dat hd), some (.dat bd)]) :=
    ev_prim (os := [.inr (.list (seqB (itR h g) k)), .inr (.int (-1))]) (ds := [.list (seqB (itR h g) k), .int (-1)]) (by simp only [evO, d1, Option.bind_some, ev_neg, Option.map_some, sv_dat, d2]) (by simp [rdOs, rdO]) (by rw [pr_idx rfl, seqB_last, Option.map_some])
  refine runs_of (φ := φ) (c := c_limit) (as := [.dat hd, .dat bd]) (v := .dat (boxD (itR h g k))) (ρ' := [some (.dat hd), some (.dat bd)]) rfl ?_
  show evSs φ [_] [some (.dat hd), some (.dat bd)] = _
  exact evSs_ret (by simp only [evS, z, Option.map_some])
end K10

set_option Elab.async false
set_option linter.all false
set_option autoImplicit false
set_option maxRecDepth 100000
set_option maxHeartbeats 4000000
namespace K10
open PySem LI
/-! ### points, wide places -/
def wideOf (b : List (List Nat)) : List Nat := (List.range b.length).filter fun p => decide (1 < (partAt b p).length)
theorem enumD_box (b : List (List Nat)) : enumD 0 (b.map rowD) = (List.range b.length).map fun p => .tuple [ic p, rowD (partAt b p)] := by
  have key : ∀ (l : List (List Nat)) (k : Nat), enumD k (l.map rowD) = (List.range l.length).map fun p => .tuple [ic (k + p), rowD (partAt l p)] := by
    intro l
    induction l with
    | nil => intro k; rfl
    | cons x l ih =>
      intro k
      rw [List.map_cons, enumD, ih, List.length_cons, List.range_succ_eq_map, List.map_cons, List.map_map]
      refine congr (congrArg _ (by simp [partAt])) (List.map_congr_left fun p _ => ?_)
      simp only [Function.comp]
      have e : k + 1 + p = k + (p + 1) := by omega
      rw [e]
      rfl
  have := key b 0
  simpa using this
theorem run_wide {φ : Fn} {hd : PyData} (b : List (List Nat)) : Runs φ c_wide_places [.dat hd, .dat (boxD b)] (rowD (wideOf b)) := by
  have key := ev_lcG (φ := φ) (elt := .var 2) (tg := .tup [.name 2, .name 3]) (it := .enum (.var 1)) (c := .prim .gt [.prim .len [.var 3], .cst (.int 1)]) (vs := [2, 3]) (ρ0 := [some (.dat hd), some (.dat (boxD b)), none, none]) (ρ := [some (.dat hd), some (.dat (boxD b)), none, none])
    (List.range b.length) (fun p => .tuple [ic p, rowD (partAt b p)]) (fun p => decide (1 < (partAt b p).length)) ic (by simp [evI, evE, enumD_box]) (fun p hp => by
      have c0 : evE φ (.prim .len [.var 3]) [some (.dat hd), some (.dat (boxD b)), some (.dat (ic p)), some (.dat (rowD (partAt b p)))] = some (.dat (ic (partAt b p).length), [some (.dat hd), some (.dat (boxD b)), some (.dat (ic p)), some (.dat (rowD (partAt b p)))]) :=
        ev_prim (os := [.inl 3]) (ds := [rowD (partAt b p)]) (by simp [evO]) (by simp [rdOs, rdO]) (by rw [pr_len rfl]; simp)
      have c1 : evE φ (.prim .gt [.prim .len [.var 3], .cst (.int 1)]) [some (.dat hd), some (.dat (boxD b)), some (.dat (ic p)), some (.dat (rowD (partAt b p)))] = some (.dat (.bool (decide ((1 : Int) < ((partAt b p).length : Int)))), [some (.dat hd), some (.dat (boxD b)), some (.dat (ic p)), some (.dat (rowD (partAt b p)))]) :=
        ev_prim (os := [.inr (ic (partAt b p).length), .inr (.int 1)]) (ds := [ic (partAt b p).length, .int 1]) (by simp only [evO, c0, Option.bind_some, ev_cst, Option.map_some, sv_dat]) (by simp [rdOs, rdO]) rfl
      have v2 : evE φ (.var 2) [some (.dat hd), some (.dat (boxD b)), some (.dat (ic p)), some (.dat (rowD (partAt b p)))] = some (.dat (ic p), [some (.dat hd), some (.dat (boxD b)), some (.dat (ic p)), some (.dat (rowD (partAt b p)))]) := ev_var rfl
      have e : decide ((1 : Int) < ((partAt b p).length : Int)) = decide (1 < (partAt b p).length) := by
        by_cases q : 1 < (partAt b p).length
        · rw [decide_eq_true q, decide_eq_true (by omega)]
        · rw [decide_eq_false q, decide_eq_false (by omega)]
      rw [e] at c1
      rw [show wipeR [some (.dat hd), some (.dat (boxD b)), none, none] [2, 3] = [some (.dat hd), some (.dat (boxD b)), none, none] from rfl, setT_two]
      simp only [Option.bind_some, List.set_cons_succ, List.set_cons_zero, evC, c1, sv_dat, truth, Option.map_some, v2]
      cases decide (1 < (partAt b p).length) <;> rfl)
  have z : evE φ (.prim .tuple [.lc (.var 2) (.tup [.name 2, .name 3]) (.enum (.var 1)) (some (.prim .gt [.prim .len [.var 3], .cst (.int 1)])) [2, 3]]) [some (.dat hd), some (.dat (boxD b)), none, none] = some (.dat (rowD (wideOf b)), [some (.dat hd), some (.dat (boxD b)), none, none]) :=
    ev_prim (os := [.inr (.list ((wideOf b).map ic))]) (ds := [.list ((wideOf b).map ic)]) (by simp [evO, key, wideOf]) (by simp [rdOs, rdO]) (by rw [pr_tuple rfl])
  refine runs_of (φ := φ) (c := c_wide_places) (as := [.dat hd, .dat (boxD b)]) (v := .dat (rowD (wideOf b))) (ρ' := [some (.dat hd), some (.dat (boxD b)), none, none]) rfl ?_
  show evSs φ [_] [some (.dat hd), some (.dat (boxD b)), none, none] = _
  exact evSs_ret (by simp only [evS, z, Option.map_some])
end K10

set_option Elab.async false
set_option linter.all false
set_option autoImplicit false
set_option maxRecDepth 100000
set_option maxHeartbeats 4000000
namespace K10
open PySem LI
theorem shaped_ic (x : Nat) : SeqAt.shaped (ic x) = true := by
  unfold SeqAt.shaped
  simp [PyData.canLay0, PyData.depth]
theorem pr_eq_ic (x y : Nat) : prim .eq [ic x, ic y] = some (.dat (.bool (decide (x = y)))) := by
  have e : prim .eq [ic x, ic y] = if SeqAt.shaped (ic x) && SeqAt.shaped (ic y) then dbl (PyData.eqv (ic x) (ic y)) else none := rfl
  rw [e, shaped_ic, shaped_ic, eqv_ic]
  rfl
def isPt (b : List (List Nat)) : Bool := b.all fun s => decide (s.length = 1)
def ptD (b : List (List Nat)) : PyData := if isPt b then rowD (b.map fun s => s.headD 0) else .none
theorem boolsD_map {α : Type} (f : α → Bool) : ∀ l : List α, boolsD (l.map fun a => .bool (f a)) = some (l.map f)
  | [] => rfl
  | a :: l => by simp only [List.map_cons, boolsD, boolsD_map f l, Option.map_some]
theorem run_point {φ : Fn} {hd : PyData} (b : List (List Nat)) : Runs φ c_point_of [.dat hd, .dat (boxD b)] (ptD b) := by
  have k1 := ev_lcN (φ := φ) (elt := .prim .eq [.prim .len [.var 2], .cst (.int 1)]) (tg := .name 2) (it := .seq (.var 1)) (vs := [2]) (ρ0 := [some (.dat hd), some (.dat (boxD b)), none]) (ρ := [some (.dat hd), some (.dat (boxD b)), none]) b rowD (fun s => .bool (decide (s.length = 1))) (by simp [evI, evE]) (fun s _ => by
    have c0 : evE φ (.prim .len [.var 2]) [some (.dat hd), some (.dat (boxD b)), some (.dat (rowD s))] = some (.dat (ic s.length), [some (.dat hd), some (.dat (boxD b)), some (.dat (rowD s))]) :=
      ev_prim (os := [.inl 2]) (ds := [rowD s]) (by simp [evO]) (by simp [rdOs, rdO]) (by rw [pr_len rfl]; simp)
    have c1 : evE φ (.prim .eq [.prim .len [.var 2], .cst (.int 1)]) [some (.dat hd), some (.dat (boxD b)), some (.dat (rowD s))] = some (.dat (.bool (decide (s.length = 1))), [some (.dat hd), some (.dat (boxD b)), some (.dat (rowD s))]) :=
      ev_prim (os := [.inr (ic s.length), .inr (.int 1)]) (ds := [ic s.length, ic 1]) (by simp only [evO, c0, Option.bind_some, ev_cst, Option.map_some, sv_dat]) (by simp [rdOs, rdO]) (pr_eq_ic _ _)
    simp [setT_one, wipeR, c1])
  have c1 : evE φ (.prim .all [.lc (.prim .eq [.prim .len [.var 2], .cst (.int 1)]) (.name 2) (.seq (.var 1)) none [2]]) [some (.dat hd), some (.dat (boxD b)), none] = some (.dat (.bool (isPt b)), [some (.dat hd), some (.dat (boxD b)), none]) :=
    ev_prim (os := [.inr (.list (b.map fun s => .bool (decide (s.length = 1))))]) (ds := [.list (b.map fun s => .bool (decide (s.length = 1)))]) (by simp [evO, k1]) (by simp [rdOs, rdO]) (by
      simp only [prim, p1, pL1, boolsD_map, Option.bind_some, dbl]
      simp [isPt, Function.comp_def])
  cases hp : isPt b with
  | false =>
    rw [hp] at c1
    have c3 := evE_ite (φ := φ) (a := .prim .tuple [.lc (.prim .idx [.var 2, .cst (.int 0)]) (.name 2) (.seq (.var 1)) none [2]]) (b := .cst .none) (t := false) c1 rfl
    simp only [Bool.false_eq_true, if_false, ev_cst] at c3
    have e : ptD b = .none := by simp [ptD, hp]
    rw [e]
    refine runs_of (φ := φ) (c := c_point_of) (as := [.dat hd, .dat (boxD b)]) (v := .dat .none) (ρ' := [some (.dat hd), some (.dat (boxD b)), none]) rfl ?_
    show evSs φ [_] [some (.dat hd), some (.dat (boxD b)), none] = _
    exact evSs_ret (by simp only [evS, c3, Option.map_some])
  | true =>
    rw [hp] at c1
    have k2 := ev_lcN (φ := φ) (elt := .prim .idx [.var 2, .cst (.int 0)]) (tg := .name 2) (it := .seq (.var 1)) (vs := [2]) (ρ0 := [some (.dat hd), some (.dat (boxD b)), none]) (ρ := [some (.dat hd), some (.dat (boxD b)), none]) b rowD (fun s => ic (s.headD 0)) (by simp [evI, evE]) (fun s hs => by
      have h1 : s.length = 1 := by
        have := List.all_eq_true.mp hp s hs
        simpa using this
      obtain ⟨x, rfl⟩ : ∃ x, s = [x] := List.length_eq_one_iff.mp h1
      have c2 : evE φ (.prim .idx [.var 2, .cst (.int 0)]) [some (.dat hd), some (.dat (boxD b)), some (.dat (rowD [x]))] = some (.dat (ic x), [some (.dat hd), some (.dat (boxD b)), some (.dat (rowD [x]))]) :=
        ev_prim (os := [.inl 2, .inr (.int 0)]) (ds := [rowD [x], .int 0]) (by simp [evO, ev_cst]) (by simp [rdOs, rdO]) rfl
      simp [setT_one, wipeR, c2])
    have z : evE φ (.prim .tuple [.lc (.prim .idx [.var 2, .cst (.int 0)]) (.name 2) (.seq (.var 1)) none [2]]) [some (.dat hd), some (.dat (boxD b)), none] = some (.dat (rowD (b.map fun s => s.headD 0)), [some (.dat hd), some (.dat (boxD b)), none]) :=
      ev_prim (os := [.inr (.list (b.map fun s => ic (s.headD 0)))]) (ds := [.list (b.map fun s => ic (s.headD 0))]) (by simp [evO, k2]) (by simp [rdOs, rdO]) (by rw [pr_tuple rfl]; simp [Function.comp_def])
    have c3 := evE_ite (φ := φ) (a := .prim .tuple [.lc (.prim .idx [.var 2, .cst (.int 0)]) (.name 2) (.seq (.var 1)) none [2]]) (b := .cst .none) (t := true) c1 rfl
    simp only [if_true, z] at c3
    have e : ptD b = rowD (b.map fun s => s.headD 0) := by simp [ptD, hp]
    rw [e]
    refine runs_of (φ := φ) (c := c_point_of) (as := [.dat hd, .dat (boxD b)]) (v := .dat (rowD (b.map fun s => s.headD 0))) (ρ' := [some (.dat hd), some (.dat (boxD b)), none]) rfl ?_
    show evSs φ [_] [some (.dat hd), some (.dat (boxD b)), none] = _
    exact evSs_ret (by simp only [evS, c3, Option.map_some])
end K10

set_option Elab.async false
set_option linter.all false
set_option autoImplicit false
set_option maxRecDepth 100000
set_option maxHeartbeats 4000000
namespace K10
open PySem LI
def SpLimit (φ : Fn) : Prop := ∀ (hd bd : PyData) (h : List Fd) (b : List (List Nat)), Wf h → (∀ f ∈ h, f.eyes.length ≤ 2) → HouseR hd h → BoxR bd b → IsBox h b → ∃ g l, Grown h b g ∧ Limit h g l ∧ Rets φ "limit" [.dat hd, .dat bd] (boxD l)
def SpPoint (φ : Fn) : Prop := ∀ (hd : PyData) (b : List (List Nat)), Rets φ "point_of" [.dat hd, .dat (boxD b)] (ptD b)
def SpWide (φ : Fn) : Prop := ∀ (hd : PyData) (b : List (List Nat)), Rets φ "wide_places" [.dat hd, .dat (boxD b)] (rowD (wideOf b))
theorem ev_via {φ : Fn} {f : Str} {hd bd d : PyData} {l : List (List Nat)} (R : Rets φ "limit" [.dat hd, .dat bd] (boxD l)) (P : Rets φ f [.dat hd, .dat (boxD l)] d) : ∃ r, evE φ (.call f [] [] [.var 0, .call "limit" [] [] [.var 0, .var 1]]) [some (.dat hd), some (.dat bd)] = some (r, [some (.dat hd), some (.dat bd)]) ∧ r.d = d := by
  obtain ⟨r2, d1, d2⟩ := ev_callR (φ := φ) (f := "limit") (cs := [.var 0, .var 1]) (ρ := [some (.dat hd), some (.dat bd)]) (ρ' := [some (.dat hd), some (.dat bd)]) (as := [.dat hd, .dat bd]) (by simp [evA, bArg, evE, upB]) R
  have v0 : evE φ (.var 0) [some (.dat hd), some (.dat bd)] = some (.dat hd, [some (.dat hd), some (.dat bd)]) := ev_var rfl
  exact ev_callR (by simp [evA, bArg, v0, d1, d2, upB]) P
theorem run_end {φ : Fn} (S : SpLimit φ) (P : SpPoint φ) {hd bd : PyData} {h : List Fd} {b : List (List Nat)} (w : Wf h) (h3 : ∀ f ∈ h, f.eyes.length ≤ 2) (hh : HouseR hd h) (hb : BoxR bd b) (i : IsBox h b) : ∃ g l, Grown h b g ∧ Limit h g l ∧ Runs φ c_end_from [.dat hd, .dat bd] (ptD l) := by
  obtain ⟨g, l, G, L, R⟩ := S hd bd h b w h3 hh hb i
  obtain ⟨r, e1, e2⟩ := ev_via R (P hd l)
  refine ⟨g, l, G, L, ?_⟩
  rw [← e2]
  refine runs_of (φ := φ) (c := c_end_from) (as := [.dat hd, .dat bd]) (v := r) (ρ' := [some (.dat hd), some (.dat bd)]) rfl ?_
  show evSs φ [_] [some (.dat hd), some (.dat bd)] = _
  exact evSs_ret (by simp only [evS, e1, Option.map_some])
theorem run_swinging {φ : Fn} (S : SpLimit φ) (P : SpWide φ) {hd bd : PyData} {h : List Fd} {b : List (List Nat)} (w : Wf h) (h3 : ∀ f ∈ h, f.eyes.length ≤ 2) (hh : HouseR hd h) (hb : BoxR bd b) (i : IsBox h b) : ∃ g l, Grown h b g ∧ Limit h g l ∧ Runs φ c_swinging [.dat hd, .dat bd] (rowD (wideOf l)) := by
  obtain ⟨g, l, G, L, R⟩ := S hd bd h b w h3 hh hb i
  obtain ⟨r, e1, e2⟩ := ev_via R (P hd l)
  refine ⟨g, l, G, L, ?_⟩
  rw [← e2]
  refine runs_of (φ := φ) (c := c_swinging) (as := [.dat hd, .dat bd]) (v := r) (ρ' := [some (.dat hd), some (.dat bd)]) rfl ?_
  show evSs φ [_] [some (.dat hd), some (.dat bd)] = _
  exact evSs_ret (by simp only [evS, e1, Option.map_some])
end K10

set_option Elab.async false
set_option linter.all false
set_option autoImplicit false
set_option maxRecDepth 100000
set_option maxHeartbeats 4000000
namespace K10
open PySem LI
theorem grown_unique {h : List Fd} {b g g' : List (List Nat)} (x : Grown h b g) (y : Grown h b g') : g = g' := box_ext x.box y.box (x.least g' y.sub y.shut) (y.least g x.sub x.shut)
theorem told_refl {h : List Fd} {l : List (List Nat)} (e : toldBox h l = l) : Sub h l (toldBox h l) := by rw [e]; exact Sub.refl _
theorem limit_unique {h : List Fd} {g l l' : List (List Nat)} (x : Limit h g l) (y : Limit h g l') : l = l' := box_ext x.box y.box (y.great l x.sub (told_refl x.told)) (x.great l' y.sub (told_refl y.told))
def SpEnd (φ : Fn) : Prop := ∀ (hd bd : PyData) (h : List Fd) (b : List (List Nat)), Wf h → (∀ f ∈ h, f.eyes.length ≤ 2) → HouseR hd h → BoxR bd b → IsBox h b → ∃ g l, Grown h b g ∧ Limit h g l ∧ Rets φ "end_from" [.dat hd, .dat bd] (ptD l)
theorem ptD_none (b : List (List Nat)) : isNoneD (ptD b) = !isPt b := by
  unfold ptD
  cases isPt b <;> rfl
theorem run_settles {φ : Fn} (S : SpEnd φ) {hd bd : PyData} {h : List Fd} {b : List (List Nat)} (w : Wf h) (h3 : ∀ f ∈ h, f.eyes.length ≤ 2) (hh : HouseR hd h) (hb : BoxR bd b) (i : IsBox h b) : ∃ g l, Grown h b g ∧ Limit h g l ∧ Runs φ c_settles [.dat hd, .dat bd] (.bool (isPt l)) := by
  obtain ⟨g, l, G, L, R⟩ := S hd bd h b w h3 hh hb i
  refine ⟨g, l, G, L, ?_⟩
  obtain ⟨r2, d1, d2⟩ := ev_callR (φ := φ) (f := "end_from") (cs := [.var 0, .var 1]) (ρ := [some (.dat hd), some (.dat bd)]) (ρ' := [some (.dat hd), some (.dat bd)]) (as := [.dat hd, .dat bd]) (by simp [evA, bArg, evE, upB]) R
  have z : evE φ (.prim .notnone [.call "end_from" [] [] [.var 0, .var 1]]) [some (.dat hd), some (.dat bd)] = some (.dat (.bool (isPt l)), [some (.dat hd), some (.dat bd)]) :=
    ev_prim (os := [.inr (ptD l)]) (ds := [ptD l]) (by simp only [evO, d1, Option.bind_some, Option.map_some, d2]) (by simp [rdOs, rdO]) (by
      show p1 (fun d => dbl (!isNoneD d)) [ptD l] = _
      simp only [p1, ptD_none, Bool.not_not, dbl])
  refine runs_of (φ := φ) (c := c_settles) (as := [.dat hd, .dat bd]) (v := .dat (.bool (isPt l))) (ρ' := [some (.dat hd), some (.dat bd)]) rfl ?_
  show evSs φ [_] [some (.dat hd), some (.dat bd)] = _
  exact evSs_ret (by simp only [evS, z, Option.map_some])
end K10

set_option Elab.async false
set_option linter.all false
set_option autoImplicit false
set_option maxRecDepth 100000
set_option maxHeartbeats 4000000
namespace K10
open PySem LI
local macro_rules | `(tactic| eq_refl) => `(tactic| first
  | refine we_cst ?_ | refine we_prim ?_ | refine we_var rfl ?_ | refine we_varo rfl ?_ | refine wo_var rfl ?_ | refine wo_cons rfl ?_ | refine wo_nil ?_
  | refine rw_inr ?_ | refine rw_dat rfl ?_ | refine rw_own rfl ?_ | refine rw_nil ?_
  | refine pw_idxc rfl rfl ?_ | refine pw_add ?_ | refine pw_sub ?_ | refine pw_neg ?_ | refine pw_lt ?_ | refine pw_le ?_ | refine pw_gt ?_ | refine pw_ge ?_ | refine pw_int ?_ | refine pw_intb ?_ | refine pw_abs ?_ | refine pw_min2 ?_ | refine pw_isnone ?_ | refine pw_notnone ?_ | refine pw_len rfl ?_ | refine pw_tuple rfl ?_ | refine pw_list rfl ?_ | refine pw_isi rfl ?_
  | refine pw_mod (by first | decide | omega) ?_ | refine pw_fdiv (by first | decide | omega) (by first | decide | omega) ?_ | refine pw_mulr (by first | decide | omega) (by first | decide | omega) ?_ | refine pw_mull (by first | decide | omega) (by first | decide | omega) ?_
  | refine wa_plain ?_ | refine wa_nil ?_ | refine wa_false ?_ | refine wa_lend rfl ?_ | refine wa_dat rfl ?_ | refine wa_true rfl ?_ | refine bk_none ?_
  | refine sw_of rfl ?_ | refine nw_of (by omega) ?_ | refine xw_of rfl rfl rfl ?_ | refine ow_of rfl ?_ | refine dw_of rfl ?_ | refine lw_of (Nat.le_of_ble_eq_true rfl) ?_
  | refine wl_nil ?_ | refine wl_star ?_ | refine wl_cons rfl ?_ | refine wv_nil ?_ | refine wv_cons ?_
  | refine we_call ?_ | refine we_tup ?_ | refine we_lst ?_ | refine we_and ?_ | refine we_or ?_ | refine we_not ?_ | refine we_ite ?_ | refine we_sl2 ?_ | refine we_popAt rfl ?_
  | refine tw_bool ?_ | refine tw_list ?_ | refine tw_tuple ?_ | refine tw_int ?_ | refine tw_none ?_ | refine wc_none ?_ | refine wc_some ?_ | refine wt_of ?_
  | refine ts_one ?_ | refine ts_two ?_ | refine ts_three ?_ | refine wi_seq ?_ | refine wi_enum ?_ | refine wi_zip ?_ | refine wi_rng1 ?_
  | refine own_ok rfl ?_ | refine endq_ret ?_ | refine endq_nx ?_ | refine go_nx ?_ | refine go_ret ?_ | refine go_true ?_ | refine go_false ?_
  | refine wss_asg ?_ | refine wss_pasg ?_ | refine wss_uasg ?_ | refine wss_seti ?_ | refine wss_app rfl ?_ | refine wss_expr ?_ | refine wss_ite ?_ | refine wss_retd rfl ?_ | refine wss_reto rfl ?_ | refine wss_ret rfl ?_ | refine wss_retN ?_ | refine wss_nil ?_)
local macro_rules | `(tactic| nofun) => `(tactic| try dsimp only [List.set_cons_succ, List.set_cons_zero, setV_dat, setV_own, sv_dat, sv_own, wipeR, restR, giveB, upB, Option.map_some, Option.map_none, List.getElem?_cons_succ, List.getElem?_cons_zero, Option.getD_some])

/-! ### draws -/
abbrev tinD (a b c : Int) : PyData := .list [.int a, .int b, .int c]
def TinR (d : PyData) (m : Nat) : Prop := ∃ (a b : Int) (c : Nat), c ≤ m ∧ d = tinD a b c
theorem TinR.le {d : PyData} {m n : Nat} (h : TinR d m) (l : m ≤ n) : TinR d n := by
  obtain ⟨a, b, c, h1, h2⟩ := h
  exact ⟨a, b, c, Nat.le_trans h1 l, h2⟩
/-- what lends the tin and gives it back -/
def TinOut (o : Rho) (m : Nat) : Prop := ∃ d, TinR d m ∧ o[0]? = some (some (.own (some 0) d))
theorem wr_take {φ : Fn} {d : PyData} {m n : Nat} (h : TinR d m) (hn : 0 < n) (hn2 : n ≤ 1000) (hc : m ≤ 100000) :
    WR φ c__law_take [.own none d, .dat (ic n)] fun v o => ∃ r, r < n ∧ v = .dat (ic r) ∧ TinOut o (m + 1) := by
  obtain ⟨a, b, c, h1, rfl⟩ := h
  refine wr_of rfl ?_
  show WSs φ [_, _, _, _, _, _] [some (.own (some 0) (tinD a b c)), some (.dat (ic n)), none, none, none, none] _
  have e : ∀ x : Int, ∃ r : Nat, r < n ∧ x % n = r := fun x => ⟨(x % n).toNat, by have := Int.emod_lt_of_pos x (b := n) (by omega); omega, by have := Int.emod_nonneg x (b := n) (by omega); omega⟩
  repeat eq_refl
  refine ⟨fun ht => ?_, fun ht => ?_⟩
  · repeat eq_refl
    obtain ⟨r, h1', h2⟩ := e a
    exact ⟨r, h1', by rw [h2], _, ⟨a / n, b, c, by omega, rfl⟩, rfl⟩
  · repeat eq_refl
    obtain ⟨r, h1', h2⟩ := e ((((b + 48271 * (↑c + 1)) * (39373 + (↑c + 1)) % 2147483647 + (↑c + 1) + b / 1000003) * ((b + 48271 * (↑c + 1)) * (39373 + (↑c + 1)) % 2147483647 % 40009 + 7) % 2147483629 * 48271 + (b + 48271 * (↑c + 1)) * (39373 + (↑c + 1)) % 2147483647) % 2147483587 / 64)
    exact ⟨r, h1', by rw [h2], _, ⟨a, b, c + 1, by omega, rfl⟩, rfl⟩
def SpTake (φ : Fn) : Prop := ∀ (d : PyData) (m n : Nat), TinR d m → 0 < n → n ≤ 1000 → m ≤ 100000 → WF φ "_law_take" [.own none d, .dat (ic n)] fun v o => ∃ r, r < n ∧ v = .dat (ic r) ∧ TinOut o (m + 1)
theorem wf_take {φ : Fn} (S : SpTake φ) {d : PyData} {m n : Nat} {Q : SV → Rho → Prop} (h : TinR d m) (hn : 0 < n) (hn2 : n ≤ 1000) (hc : m ≤ 100000) (q : ∀ r d' o, r < n → TinR d' (m + 1) → o[0]? = some (some (.own (some 0) d')) → Q (.dat (ic r)) o) :
    WF φ "_law_take" [.own none d, .dat (ic n)] Q := by
  refine wf_mono (S d m n h hn hn2 hc) ?_
  rintro _ o ⟨r, h1, rfl, d', h2, h3⟩
  exact q r d' o h1 h2 h3
/- one of -/
theorem wr_of_ {φ : Fn} (S : SpTake φ) {d g : PyData} {xs : List PyData} {m : Nat} (h : TinR d m) (hg : seqOf g = some xs) (hn : 0 < xs.length) (hn2 : xs.length ≤ 1000) (hc : m ≤ 100000) :
    WR φ c__law_of [.own none d, .dat g] fun v o => ∃ x, x ∈ xs ∧ v = .dat x ∧ TinOut o (m + 1) := by
  refine wr_of rfl ?_
  show WSs φ [_] [some (.own (some 0) d), some (.dat g)] _
  repeat eq_refl
  refine pw_len hg ?_
  repeat eq_refl
  refine wf_take S h hn hn2 hc fun r d' o hr ht ho => ?_
  rw [giveB_own ho]
  repeat eq_refl
  refine pw_idx hg (List.getElem?_eq_getElem hr) ?_
  repeat eq_refl
  exact ⟨_, List.getElem_mem hr, rfl, d', ht, rfl⟩
theorem perm_erase {α : Type} : ∀ {l : List α} {r : Nat} (h : r < l.length), (l[r] :: l.eraseIdx r).Perm l
  | x :: l, 0, _ => by simp
  | x :: l, r + 1, h => by
    have ih := perm_erase (l := l) (r := r) (by simpa using h)
    rw [List.getElem_cons_succ, List.eraseIdx_cons_succ]
    exact (List.Perm.swap x _ _).trans (ih.cons x)
/- some of -/
theorem wr_pick {φ : Fn} (S : SpTake φ) {d g : PyData} {xs : List PyData} {m cnt : Nat} (h : TinR d m) (hg : seqOf g = some xs) (hn2 : xs.length ≤ 1000) (hc : m + cnt ≤ 100000) :
    WR φ c__law_pick [.own none d, .dat g, .dat (ic cnt)] fun v o => ∃ ys zs, v = .own none (.list ys) ∧ (ys ++ zs).Perm xs ∧ ys.length = min cnt xs.length ∧ TinOut o (m + cnt) := by
  refine wr_of rfl ?_
  show WSs φ [_, _, _] [some (.own (some 0) d), some (.dat g), some (.dat (ic cnt)), none, none, none] _
  repeat eq_refl
  refine pw_list hg ?_
  repeat eq_refl
  refine ⟨_, rfl, ?_⟩
  nofun
  refine wss_for (List.range (min cnt xs.length)) ic (fun don ρ => ∃ d' pool acc x5, ρ = [some (.own (some 0) d'), some (.dat g), some (.dat (ic cnt)), some (.own none (.list pool)), some (.own none (.list acc)), x5] ∧ TinR d' (m + don.length) ∧ acc.length = don.length ∧ (acc ++ pool).Perm xs) ?_
  repeat eq_refl
  refine nw_lit (n := min cnt xs.length) (by split <;> simp <;> omega) (by omega) ?_
  refine ⟨rfl, ⟨d, xs, [], none, rfl, h, rfl, by simp⟩, ?_, ?_⟩
  · rintro don a rest _ e ⟨d', pool, acc, x5, rfl, h1, h2, h3⟩
    have hl : don.length < min cnt xs.length := by
      have := congrArg List.length e
      simp at this
      omega
    have m1 := Nat.min_le_left cnt xs.length
    have m2 := Nat.min_le_right cnt xs.length
    have hp : (acc ++ pool).length = xs.length := h3.length_eq
    rw [List.length_append] at hp
    repeat eq_refl
    refine wf_take S h1 (by omega) (by omega) (by omega) fun r d2 o hr ht ho => ?_
    rw [giveB_own ho]
    refine xw_of rfl rfl (ixD_nat hr) ?_
    refine ⟨_, List.getElem?_eq_getElem hr, ?_⟩
    repeat eq_refl
    refine lw_of (by omega) ?_
    repeat eq_refl
    refine ⟨rfl, d2, pool.eraseIdx r, acc ++ [pool[r]], some (.dat (ic a)), rfl, by simpa [Nat.add_assoc] using ht, by simp [h2], ?_⟩
    have k : (pool[r] :: pool.eraseIdx r).Perm pool := perm_erase hr
    refine List.Perm.trans ?_ h3
    rw [List.append_assoc]
    exact List.Perm.append_left acc k
  · rintro _ ⟨d', pool, acc, x5, rfl, h1, h2, h3⟩
    repeat eq_refl
    exact ⟨acc, pool, rfl, h3, by simpa using h2, d', h1.le (by simp; omega), rfl⟩
end K10

set_option Elab.async false
set_option linter.all false
set_option autoImplicit false
set_option maxRecDepth 100000
set_option maxHeartbeats 4000000
namespace K10
open PySem LI
local macro_rules | `(tactic| eq_refl) => `(tactic| first
  | refine we_cst ?_ | refine we_prim ?_ | refine we_var rfl ?_ | refine we_varo rfl ?_ | refine wo_var rfl ?_ | refine wo_cons rfl ?_ | refine wo_nil ?_
  | refine rw_inr ?_ | refine rw_dat rfl ?_ | refine rw_own rfl ?_ | refine rw_nil ?_
  | refine pw_idxc rfl rfl ?_ | refine pw_add ?_ | refine pw_sub ?_ | refine pw_neg ?_ | refine pw_lt ?_ | refine pw_le ?_ | refine pw_gt ?_ | refine pw_ge ?_ | refine pw_int ?_ | refine pw_intb ?_ | refine pw_abs ?_ | refine pw_min2 ?_ | refine pw_isnone ?_ | refine pw_notnone ?_ | refine pw_len rfl ?_ | refine pw_tuple rfl ?_ | refine pw_list rfl ?_ | refine pw_isi rfl ?_
  | refine pw_mod (by first | decide | omega) ?_ | refine pw_fdiv (by first | decide | omega) (by first | decide | omega) ?_ | refine pw_mulr (by first | decide | omega) (by first | decide | omega) ?_ | refine pw_mull (by first | decide | omega) (by first | decide | omega) ?_
  | refine wa_plain ?_ | refine wa_nil ?_ | refine wa_false ?_ | refine wa_lend rfl ?_ | refine wa_dat rfl ?_ | refine wa_true rfl ?_ | refine bk_none ?_
  | refine sw_of rfl ?_ | refine nw_of (by omega) ?_ | refine xw_of rfl rfl rfl ?_ | refine ow_of rfl ?_ | refine dw_of rfl ?_ | refine lw_of (Nat.le_of_ble_eq_true rfl) ?_
  | refine wl_nil ?_ | refine wl_star ?_ | refine wl_cons rfl ?_ | refine wv_nil ?_ | refine wv_cons ?_
  | refine we_call ?_ | refine we_tup ?_ | refine we_lst ?_ | refine we_and ?_ | refine we_or ?_ | refine we_not ?_ | refine we_ite ?_ | refine we_sl2 ?_ | refine we_popAt rfl ?_
  | refine tw_bool ?_ | refine tw_list ?_ | refine tw_tuple ?_ | refine tw_int ?_ | refine tw_none ?_ | refine wc_none ?_ | refine wc_some ?_ | refine wt_of ?_
  | refine ts_one ?_ | refine ts_two ?_ | refine ts_three ?_ | refine wi_seq ?_ | refine wi_enum ?_ | refine wi_zip ?_ | refine wi_rng1 ?_
  | refine own_ok rfl ?_ | refine endq_ret ?_ | refine endq_nx ?_ | refine go_nx ?_ | refine go_ret ?_ | refine go_true ?_ | refine go_false ?_
  | refine wss_asg ?_ | refine wss_pasg ?_ | refine wss_uasg ?_ | refine wss_seti ?_ | refine wss_app rfl ?_ | refine wss_expr ?_ | refine wss_ite ?_ | refine wss_retd rfl ?_ | refine wss_reto rfl ?_ | refine wss_ret rfl ?_ | refine wss_retN ?_ | refine wss_nil ?_)
local macro_rules | `(tactic| nofun) => `(tactic| try dsimp only [List.set_cons_succ, List.set_cons_zero, setV_dat, setV_own, sv_dat, sv_own, wipeR, restR, giveB, upB, Option.map_some, Option.map_none, List.getElem?_cons_succ, List.getElem?_cons_zero, Option.getD_some])

theorem All2.snoc {α β : Type} {R : α → β → Prop} {l : List α} {m : List β} {a : α} {b : β} (h : All2 R l m) (r : R a b) : All2 R (l ++ [a]) (m ++ [b]) := by
  induction h with
  | nil => exact .cons r .nil
  | cons q _ ih => exact .cons q ih
theorem range_split {n a : Nat} {don rest : List Nat} (h : List.range n = don ++ a :: rest) : don = List.range a ∧ a < n := by
  have hl := congrArg List.length h
  simp at hl
  have ha : (List.range n)[don.length]? = some a := by rw [h]; simp
  rw [List.getElem?_range (by omega)] at ha
  cases ha
  refine ⟨?_, by omega⟩
  refine List.ext_getElem (by simp) fun i h1 h2 => ?_
  have : (List.range n)[i]? = some don[i] := by rw [h, List.getElem?_append_left h1, List.getElem?_eq_getElem h1]
  rw [List.getElem?_range (by omega)] at this
  rw [List.getElem_range]
  exact (Option.some.inj this).symm
theorem enumD_gen {α : Type} (f : α → PyData) (dflt : α) (l : List α) : enumD 0 (l.map f) = (List.range l.length).map fun p => .tuple [ic p, f (l.getD p dflt)] := by
  have key : ∀ (l : List α) (k : Nat), enumD k (l.map f) = (List.range l.length).map fun p => .tuple [ic (k + p), f (l.getD p dflt)] := by
    intro l
    induction l with
    | nil => intro k; rfl
    | cons x l ih =>
      intro k
      rw [List.map_cons, enumD, ih, List.length_cons, List.range_succ_eq_map, List.map_cons, List.map_map]
      refine congr (congrArg _ (by simp)) (List.map_congr_left fun p _ => ?_)
      simp only [Function.comp]
      have e : k + 1 + p = k + (p + 1) := by omega
      rw [e]
      rfl
  simpa using key l 0
/-! ### a drawn state -/
theorem wr_spot {φ : Fn} (S : SpTake φ) {d hd : PyData} {h : List Fd} {m : Nat} (ht : TinR d m) (hh : HouseR hd h) (hn : ∀ f ∈ h, 1 ≤ f.n ∧ f.n ≤ 16) (hc : m + h.length ≤ 100000) :
    WR φ c__law_spot [.own none d, .dat hd] fun v o => ∃ s, v = .dat (rowD s) ∧ All2 (fun x (f : Fd) => x < f.n) s h ∧ TinOut o (m + h.length) := by
  obtain ⟨ds, e1, hA⟩ := hh
  obtain ⟨z, rfl, rfl, hz⟩ := hA.zip
  refine wr_of rfl ?_
  show WSs φ [_] [some (.own (some 0) d), some (.dat hd), none] _
  repeat eq_refl
  refine we_lcI z (·.1) (fun don acc ρ => ∃ d' s x2, ρ = [some (.own (some 0) d'), some (.dat hd), x2] ∧ acc = s.map ic ∧ All2 (fun x (f : Fd) => x < f.n) s (don.map (·.2)) ∧ TinR d' (m + don.length)) ?_
  repeat eq_refl
  refine sw_of e1 ?_
  refine ⟨rfl, ⟨d, [], none, rfl, rfl, .nil, ht⟩, ?_, ?_⟩
  · rintro don p rest acc _ e ⟨d', s, x2, rfl, rfl, h1, h2⟩
    have hp := hz p (by rw [e]; simp)
    have hl : don.length < z.length := by rw [e]; simp
    obtain ⟨v, ee, t, i0, _, _, i3, _⟩ := hp.parts
    have hb := hn p.2 (List.mem_map.mpr ⟨p, by rw [e]; simp, rfl⟩)
    nofun
    repeat eq_refl
    refine pw_of i0 ?_
    repeat eq_refl
    refine pw_of i3 ?_
    repeat eq_refl
    refine wf_take S h2 (by omega) (by omega) (by simp at hc; omega) fun r d2 o hr ht ho => ?_
    rw [giveB_own ho]
    nofun
    refine ⟨d2, s ++ [r], _, rfl, by simp, ?_, by simpa [Nat.add_assoc] using ht⟩
    rw [List.map_append]
    exact h1.snoc hr
  · rintro acc _ ⟨d', s, x2, rfl, rfl, h1, h2⟩
    nofun
    repeat eq_refl
    exact ⟨s, rfl, h1, d', by simpa using h2, rfl⟩
def SpSpot (φ : Fn) : Prop := ∀ (d hd : PyData) (h : List Fd) (m : Nat), TinR d m → HouseR hd h → (∀ f ∈ h, 1 ≤ f.n ∧ f.n ≤ 16) → m + h.length ≤ 100000 → WF φ "_law_spot" [.own none d, .dat hd] fun v o => ∃ s, v = .dat (rowD s) ∧ All2 (fun x (f : Fd) => x < f.n) s h ∧ TinOut o (m + h.length)
/-! ### a drawn start -/
theorem wr_start {φ : Fn} (S : SpTake φ) (S2 : SpSpot φ) {d hd : PyData} {h : List Fd} {m : Nat} (ht : TinR d m) (hh : HouseR hd h) (hn : ∀ f ∈ h, 1 ≤ f.n ∧ f.n ≤ 16) (hl : h.length ≤ 16) (hc : m + 300 ≤ 100000) :
    WR φ c__law_start [.own none d, .dat hd] fun v o => ∃ s b, v = .dat (.tuple [rowD s, boxD b]) ∧ All2 (fun x (f : Fd) => x < f.n) s h ∧ IsBox h b ∧ (∀ p < h.length, s.getD p 0 ∈ partAt b p) ∧ TinOut o (m + h.length + 16 * h.length) := by
  refine wr_of rfl ?_
  show WSs φ [_, _, _] [some (.own (some 0) d), some (.dat hd), none, none, none, none, none, none] _
  repeat eq_refl
  refine wf_mono (S2 d hd h m ht hh hn (by omega)) ?_
  rintro _ o ⟨s, rfl, h1, d1, ht1, ho⟩
  rw [giveB_own ho]
  repeat eq_refl
  refine ⟨_, rfl, ?_⟩
  nofun
  have hsl : s.length = h.length := h1.length
  refine wss_for (List.range s.length) (fun p => .tuple [ic p, ic (s.getD p 0)]) (fun don ρ => ∃ d' b x4 x5 x6, ρ = [some (.own (some 0) d'), some (.dat hd), some (.dat (rowD s)), some (.own none (.list (b.map rowD))), x4, x5, x6, none] ∧ TinR d' (m + h.length + 16 * don.length) ∧ b.length = don.length ∧ ∀ p < don.length, Asc (partAt b p) ∧ (∀ x ∈ partAt b p, x < szAt h p) ∧ s.getD p 0 ∈ partAt b p) ?_
  repeat eq_refl
  refine ⟨enumD_gen ic 0 s, ⟨d1, [], none, none, none, rfl, ht1, rfl, fun p hp => absurd hp (by simp)⟩, ?_, ?_⟩
  · rintro don p rest _ e ⟨d', b, x4, x5, x6, rfl, h2, h3, h4⟩
    obtain ⟨e1, e2⟩ := range_split e
    have hdl : don.length = p := by rw [e1]; simp
    have hp : p < h.length := by omega
    obtain ⟨f, hf⟩ : ∃ f, h[p]? = some f := ⟨h[p], List.getElem?_eq_getElem hp⟩
    have hfn := hn f (List.mem_of_getElem? hf)
    obtain ⟨fd, i0, hfd⟩ := hh.idx hf
    obtain ⟨v, ee, t, i1, _, _, i3, _⟩ := hfd.parts
    have hs : s.getD p 0 < f.n := by
      obtain ⟨x, hx, hr⟩ := h1.get hf
      simpa [hx] using hr
    repeat eq_refl
    refine we_lcifI (List.range f.n) ic (fun dn acc ρ => ∃ d2 ys x7, ρ = [some (.own (some 0) d2), some (.dat hd), some (.dat (rowD s)), some (.own none (.list (b.map rowD))), some (.dat (ic p)), some (.dat (ic (s.getD p 0))), x6, x7] ∧ acc = ys.map ic ∧ TinR d2 (m + h.length + 16 * don.length + dn.length) ∧ Asc ys ∧ (∀ y ∈ ys, y ∈ dn) ∧ (s.getD p 0 ∈ dn → s.getD p 0 ∈ ys)) ?_
    nofun
    repeat eq_refl
    refine pw_of i0 ?_
    repeat eq_refl
    refine pw_of i1 ?_
    repeat eq_refl
    refine pw_of i3 ?_
    repeat eq_refl
    refine ⟨rfl, ⟨d', [], none, rfl, rfl, h2, List.Pairwise.nil, fun y hy => absurd hy (by simp), fun z => absurd z (by simp)⟩, ?_, ?_⟩
    · rintro dn k rst acc _ e3 ⟨d2, ys, x7, rfl, rfl, k1, k2, k3, k4⟩
      obtain ⟨e4, e5⟩ := range_split e3
      have hdn : dn.length = k := by rw [e4]; simp
      have hasc : Asc (ys ++ [k]) := by
        refine List.pairwise_append.mpr ⟨k2, by simp, fun a ha b hb => ?_⟩
        rw [List.mem_singleton] at hb
        have := k3 a ha
        rw [e4, List.mem_range] at this
        omega
      nofun
      repeat eq_refl
      refine pw_eq (shaped_ic _) (shaped_ic _) (eqv_ic _ _) ?_
      repeat eq_refl
      refine ⟨fun hk => ?_, fun hk => ?_⟩
      · rw [decide_eq_true_eq] at hk
        repeat eq_refl
        refine ⟨fun z => absurd (z.symm.trans (decide_eq_true hk)) (by decide), fun _ => ?_⟩
        repeat eq_refl
        nofun
        refine ⟨d2, ys ++ [k], _, rfl, by simp, k1.le (by simp), hasc, fun y hy => ?_, fun _ => by rw [← hk]; simp⟩
        rcases List.mem_append.mp hy with z | z
        · exact List.mem_append.mpr (.inl (k3 y z))
        · exact List.mem_append.mpr (.inr z)
      · rw [decide_eq_false_iff_not] at hk
        repeat eq_refl
        refine wf_take S (n := 4) k1 (by omega) (by omega) (by omega) fun r d3 o hr ht ho => ?_
        rw [giveB_own ho]
        repeat eq_refl
        refine pw_eq (b := ic 0) (shaped_ic _) (shaped_ic _) (eqv_ic _ _) ?_
        repeat eq_refl
        refine ⟨fun hz => ?_, fun hz => ?_⟩
        · nofun
          refine ⟨d3, ys, _, rfl, rfl, by simpa [Nat.add_assoc] using ht, k2, fun y hy => List.mem_append.mpr (.inl (k3 y hy)), fun z => ?_⟩
          rcases List.mem_append.mp z with z | z
          · exact k4 z
          · rw [List.mem_singleton] at z; exact absurd z.symm hk
        · repeat eq_refl
          nofun
          refine ⟨d3, ys ++ [k], _, rfl, by simp, by simpa [Nat.add_assoc] using ht, hasc, fun y hy => ?_, fun z => ?_⟩
          · rcases List.mem_append.mp hy with z | z
            · exact List.mem_append.mpr (.inl (k3 y z))
            · exact List.mem_append.mpr (.inr z)
          · rcases List.mem_append.mp z with z | z
            · exact List.mem_append.mpr (.inl (k4 z))
            · exact List.mem_append.mpr (.inr z)
    · rintro acc _ ⟨d2, ys, x7, rfl, rfl, k1, k2, k3, k4⟩
      nofun
      repeat eq_refl
      refine lw_of (by simp; omega) ?_
      repeat eq_refl
      nofun
      refine ⟨rfl, d2, b ++ [ys], _, _, _, by rw [List.map_append]; rfl, ?_, by simp [h3], fun q hq => ?_⟩
      · refine k1.le ?_
        simp
        omega
      · by_cases hqp : q < don.length
        · have e6 : partAt (b ++ [ys]) q = partAt b q := by unfold partAt; rw [List.getElem?_append_left (by omega)]
          rw [e6]
          exact h4 q hqp
        · have hq' : q = p := by simp at hq; omega
          subst hq'
          have e6 : partAt (b ++ [ys]) q = ys := by unfold partAt; rw [List.getElem?_append_right (by omega)]; simp [h3, hdl]
          have se : szAt h q = f.n := by simp [szAt, hf]
          rw [e6, se]
          exact ⟨k2, fun x hx => List.mem_range.mp (k3 x hx), k4 (List.mem_range.mpr hs)⟩
  · rintro _ ⟨d', b, x4, x5, x6, rfl, h2, h3, h4⟩
    simp only [List.length_range] at h2 h3 h4
    repeat eq_refl
    refine ⟨s, b, rfl, h1, ⟨by omega, fun p hp => (h4 p (by omega)).1, fun p hp => List.ne_nil_of_mem (h4 p (by omega)).2.2, fun p hp => (h4 p (by omega)).2.1⟩, fun p hp => (h4 p (by omega)).2.2, d', by rw [hsl] at h2; exact h2, rfl⟩
def SpStart (φ : Fn) : Prop := ∀ (d hd : PyData) (h : List Fd) (m : Nat), TinR d m → HouseR hd h → (∀ f ∈ h, 1 ≤ f.n ∧ f.n ≤ 16) → h.length ≤ 16 → m + 300 ≤ 100000 → WF φ "_law_start" [.own none d, .dat hd] fun v o => ∃ s b, v = .dat (.tuple [rowD s, boxD b]) ∧ All2 (fun x (f : Fd) => x < f.n) s h ∧ IsBox h b ∧ (∀ p < h.length, s.getD p 0 ∈ partAt b p) ∧ TinOut o (m + h.length + 16 * h.length)
theorem wr_bag {φ : Fn} (S : SpStart φ) {d hd : PyData} {h : List Fd} {m : Nat} (ht : TinR d m) (hh : HouseR hd h) (hn : ∀ f ∈ h, 1 ≤ f.n ∧ f.n ≤ 16) (hl : h.length ≤ 16) (hc : m + 300 ≤ 100000) :
    WR φ c__law_bag [.own none d, .dat hd] fun v o => ∃ b, v = .dat (boxD b) ∧ IsBox h b ∧ TinOut o (m + h.length + 16 * h.length) := by
  refine wr_of rfl ?_
  show WSs φ [_] [some (.own (some 0) d), some (.dat hd)] _
  repeat eq_refl
  refine wf_mono (S d hd h m ht hh hn hl hc) ?_
  rintro _ o ⟨s, b, rfl, h1, h2, _, d1, ht1, ho⟩
  rw [giveB_own ho]
  repeat eq_refl
  exact ⟨b, rfl, h2, d1, ht1, rfl⟩
end K10

set_option Elab.async false
set_option linter.all false
set_option autoImplicit false
set_option maxRecDepth 100000
set_option maxHeartbeats 4000000
namespace K10
open PySem LI
local macro_rules | `(tactic| eq_refl) => `(tactic| first
  | refine we_cst ?_ | refine we_prim ?_ | refine we_var rfl ?_ | refine we_varo rfl ?_ | refine wo_var rfl ?_ | refine wo_cons rfl ?_ | refine wo_nil ?_
  | refine rw_inr ?_ | refine rw_dat rfl ?_ | refine rw_own rfl ?_ | refine rw_nil ?_
  | refine pw_idxc rfl rfl ?_ | refine pw_add ?_ | refine pw_sub ?_ | refine pw_neg ?_ | refine pw_lt ?_ | refine pw_le ?_ | refine pw_gt ?_ | refine pw_ge ?_ | refine pw_int ?_ | refine pw_intb ?_ | refine pw_abs ?_ | refine pw_min2 ?_ | refine pw_isnone ?_ | refine pw_notnone ?_ | refine pw_len rfl ?_ | refine pw_tuple rfl ?_ | refine pw_list rfl ?_ | refine pw_isi rfl ?_
  | refine pw_mod (by first | decide | omega) ?_ | refine pw_fdiv (by first | decide | omega) (by first | decide | omega) ?_ | refine pw_mulr (by first | decide | omega) (by first | decide | omega) ?_ | refine pw_mull (by first | decide | omega) (by first | decide | omega) ?_
  | refine wa_plain ?_ | refine wa_nil ?_ | refine wa_false ?_ | refine wa_lend rfl ?_ | refine wa_dat rfl ?_ | refine wa_true rfl ?_ | refine bk_none ?_
  | refine sw_of rfl ?_ | refine nw_of (by omega) ?_ | refine xw_of rfl rfl rfl ?_ | refine ow_of rfl ?_ | refine dw_of rfl ?_ | refine lw_of (Nat.le_of_ble_eq_true rfl) ?_
  | refine wl_nil ?_ | refine wl_star ?_ | refine wl_cons rfl ?_ | refine wv_nil ?_ | refine wv_cons ?_
  | refine we_call ?_ | refine we_tup ?_ | refine we_lst ?_ | refine we_and ?_ | refine we_or ?_ | refine we_not ?_ | refine we_ite ?_ | refine we_sl2 ?_ | refine we_popAt rfl ?_
  | refine tw_bool ?_ | refine tw_list ?_ | refine tw_tuple ?_ | refine tw_int ?_ | refine tw_none ?_ | refine wc_none ?_ | refine wc_some ?_ | refine wt_of ?_
  | refine ts_one ?_ | refine ts_two ?_ | refine ts_three ?_ | refine wi_seq ?_ | refine wi_enum ?_ | refine wi_zip ?_ | refine wi_rng1 ?_
  | refine own_ok rfl ?_ | refine endq_ret ?_ | refine endq_nx ?_ | refine go_nx ?_ | refine go_ret ?_ | refine go_true ?_ | refine go_false ?_
  | refine wss_asg ?_ | refine wss_pasg ?_ | refine wss_uasg ?_ | refine wss_seti ?_ | refine wss_app rfl ?_ | refine wss_expr ?_ | refine wss_ite ?_ | refine wss_retd rfl ?_ | refine wss_reto rfl ?_ | refine wss_ret rfl ?_ | refine wss_retN ?_ | refine wss_nil ?_)
local macro_rules | `(tactic| nofun) => `(tactic| try dsimp only [List.set_cons_succ, List.set_cons_zero, setV_dat, setV_own, sv_dat, sv_own, wipeR, restR, giveB, upB, Option.map_some, Option.map_none, List.getElem?_cons_succ, List.getElem?_cons_zero, Option.getD_some])

/-! ### sorting numbers -/
def insL (x : Nat) : List Nat → List Nat
  | [] => [x]
  | y :: r => if x ≤ y then x :: y :: r else y :: insL x r
def srtL : List Nat → List Nat
  | [] => []
  | x :: r => insL x (srtL r)
theorem insI_cast (x : Nat) : ∀ l : List Nat, insI (x : Int) (l.map fun (y : Nat) => (y : Int)) = (insL x l).map fun (y : Nat) => (y : Int)
  | [] => rfl
  | y :: r => by
    simp only [List.map_cons, insI, insL]
    by_cases h : x ≤ y
    · rw [if_pos h, if_pos (by omega)]; rfl
    · rw [if_neg h, if_neg (by omega), List.map_cons, insI_cast x r]
theorem srtI_cast : ∀ l : List Nat, srtI (l.map fun (y : Nat) => (y : Int)) = (srtL l).map fun (y : Nat) => (y : Int)
  | [] => rfl
  | x :: r => by rw [List.map_cons, srtI, srtI_cast r, insI_cast]; rfl
theorem mem_insL {x y : Nat} : ∀ {l : List Nat}, y ∈ insL x l ↔ y = x ∨ y ∈ l
  | [] => by simp [insL]
  | z :: r => by
    unfold insL
    split
    · simp
    · simp only [List.mem_cons, mem_insL (l := r)]
      constructor
      · rintro (h | h | h)
        · exact .inr (.inl h)
        · exact .inl h
        · exact .inr (.inr h)
      · rintro (h | h | h)
        · exact .inr (.inl h)
        · exact .inl h
        · exact .inr (.inr h)
theorem mem_srtL {y : Nat} : ∀ {l : List Nat}, y ∈ srtL l ↔ y ∈ l
  | [] => by simp [srtL]
  | x :: r => by rw [srtL, mem_insL, mem_srtL (l := r), List.mem_cons]
theorem len_insL {x : Nat} : ∀ {l : List Nat}, (insL x l).length = l.length + 1
  | [] => rfl
  | z :: r => by
    unfold insL
    split
    · simp
    · simp [len_insL (l := r)]
theorem len_srtL : ∀ {l : List Nat}, (srtL l).length = l.length
  | [] => rfl
  | x :: r => by rw [srtL, len_insL, len_srtL]; rfl
theorem asc_insL {x : Nat} : ∀ {l : List Nat}, Asc l → x ∉ l → Asc (insL x l)
  | [], _, _ => by simp [insL]
  | z :: r, h, n => by
    obtain ⟨h1, h2⟩ := List.pairwise_cons.mp h
    simp only [List.mem_cons, not_or] at n
    unfold insL
    split
    · rename_i hx
      refine List.pairwise_cons.mpr ⟨fun a ha => ?_, h⟩
      rcases List.mem_cons.mp ha with rfl | ha
      · omega
      · have := h1 a ha; omega
    · refine List.pairwise_cons.mpr ⟨fun a ha => ?_, asc_insL h2 n.2⟩
      rcases mem_insL.mp ha with rfl | ha
      · omega
      · exact h1 a ha
theorem asc_srtL : ∀ {l : List Nat}, l.Nodup → Asc (srtL l)
  | [], _ => List.Pairwise.nil
  | x :: r, h => by
    obtain ⟨h1, h2⟩ := List.nodup_cons.mp h
    exact asc_insL (asc_srtL h2) (fun z => h1 (mem_srtL.mp z))
theorem pw_sortedN {ns : List Nat} {Q : SV → Prop} (q : Q (.own none (.list ((srtL ns).map ic)))) : PW .sorted [.list (ns.map ic)] Q := by
  refine pw_of (v := .own none (.list ((srtL ns).map ic))) ?_ q
  simp only [prim, p1, pL1, intsD_row, Option.bind_some, srtI_cast, dls, List.map_map]
  rfl
theorem pw_slT {xs : List PyData} {k : Nat} {Q : SV → Prop} (q : Q (.dat (.tuple (xs.take k)))) : PW (.sl false true) [.tuple xs, .int (k : Int)] Q := by
  refine pw_of (v := .dat (.tuple (xs.take k))) ?_ q
  have e : sIxD xs.length xs.length (some (k : Int)) = min k xs.length := by simp only [sIxD]; rw [if_neg (by omega)]; simp
  simp [prim, pSl, slParts, cutD, e, sIxD]
  rw [if_neg (by omega)]; omega
theorem lr_one {i : Int} (h : okRg 0 i = true) : prim .lrange1 [.int i] = dls (rgD 0 i) := by
  simp only [prim, p1, pI1, h, if_true]
theorem pw_lrange {n : Nat} {Q : SV → Prop} (h : n ≤ 1000) (q : Q (.own none (.list ((List.range n).map ic)))) : PW .lrange1 [.int (n : Int)] Q := by
  refine pw_of (v := .own none (.list ((List.range n).map ic))) ?_ q
  rw [lr_one (okRg_nat h), rgD_nat]; rfl
/-! ### a drawn house -/
def nmD (n : Nat) : PyData := .tuple (List.take n [.str "no", .str "yes", .str "zeal"])
def fdT (f : Fd) : PyData := .tuple [nmD f.n, rowD f.eyes, rowD f.tab]
def houseT (h : List Fd) : PyData := .tuple (h.map fdT)
def prodOf (l : List Nat) : Nat := l.foldr (· * ·) 1
theorem prod_snoc (l : List Nat) (x : Nat) : prodOf (l ++ [x]) = prodOf l * x := by
  unfold prodOf
  induction l with
  | nil => simp
  | cons a l ih => simp only [List.cons_append, List.foldr_cons, ih, Nat.mul_assoc]
theorem nats_of {ys zs : List PyData} {n : Nat} (h : (ys ++ zs).Perm ((List.range n).map ic)) : ∃ ns : List Nat, ys = ns.map ic ∧ ns.Nodup ∧ ∀ x ∈ ns, x < n := by
  have hnd : ((List.range n).map ic).Nodup := by
    refine List.Pairwise.map ic (fun a b hab => ?_) (List.nodup_range (n := n))
    intro e
    have : (a : Int) = (b : Int) := by injection e
    omega
  have hm : ∀ y ∈ ys, ∃ x, x < n ∧ y = ic x := fun y hy => by
    have := h.mem_iff.mp (List.mem_append.mpr (.inl hy))
    obtain ⟨x, hx, rfl⟩ := List.mem_map.mp this
    exact ⟨x, List.mem_range.mp hx, rfl⟩
  have hd : ys.Nodup := (List.nodup_append.mp (h.nodup_iff.mpr hnd)).1
  clear h hnd
  induction ys with
  | nil => exact ⟨[], rfl, List.nodup_nil, fun x hx => absurd hx (by simp)⟩
  | cons y ys ih =>
    obtain ⟨x, hx, rfl⟩ := hm y List.mem_cons_self
    obtain ⟨h1, h2⟩ := List.nodup_cons.mp hd
    obtain ⟨ns, rfl, h3, h4⟩ := ih (fun z hz => hm z (List.mem_cons_of_mem _ hz)) h2
    refine ⟨x :: ns, rfl, List.nodup_cons.mpr ⟨fun z => h1 (List.mem_map.mpr ⟨x, z, rfl⟩), h3⟩, fun z hz => ?_⟩
    rcases List.mem_cons.mp hz with rfl | hz
    · exact hx
    · exact h4 z hz
theorem menu_of {k : Nat} (h1 : 1 ≤ k) (h2 : k ≤ 3) : ∃ xs : List Nat, prim (.sl false true) [.list [.int 1, .int 2, .int 2, .int 2, .int 3, .int 3], .int ((k : Int) * 2)] = some (.own none (.list (xs.map ic))) ∧ 0 < xs.length ∧ xs.length ≤ 6 ∧ ∀ x ∈ xs, 1 ≤ x ∧ x ≤ 3 := by
  have : k = 1 ∨ k = 2 ∨ k = 3 := by omega
  rcases this with rfl | rfl | rfl
  · exact ⟨[1, 2], rfl, by decide, by decide, by decide⟩
  · exact ⟨[1, 2, 2, 2], rfl, by decide, by decide, by decide⟩
  · exact ⟨[1, 2, 2, 2, 3, 3], rfl, by decide, by decide, by decide⟩
structure HouseOk (h : List Fd) : Prop where
  n1 : ∀ f ∈ h, 1 ≤ f.n ∧ f.n ≤ 3
  eyes : ∀ f ∈ h, f.eyes.length ≤ 2 ∧ Asc f.eyes ∧ ∀ e ∈ f.eyes, e < h.length
  tab : ∀ f ∈ h, f.tab.length = prodOf (f.eyes.map (szAt h)) ∧ ∀ x ∈ f.tab, x < f.n
def SpOf (φ : Fn) : Prop := ∀ (d g : PyData) (xs : List PyData) (m : Nat), TinR d m → seqOf g = some xs → 0 < xs.length → xs.length ≤ 1000 → m ≤ 100000 → WF φ "_law_of" [.own none d, .dat g] fun v o => ∃ x, x ∈ xs ∧ v = .dat x ∧ TinOut o (m + 1)
def SpPick (φ : Fn) : Prop := ∀ (d g : PyData) (xs : List PyData) (m cnt : Nat), TinR d m → seqOf g = some xs → xs.length ≤ 1000 → m + cnt ≤ 100000 → WF φ "_law_pick" [.own none d, .dat g, .dat (ic cnt)] fun v o => ∃ ys zs, v = .own none (.list ys) ∧ (ys ++ zs).Perm xs ∧ ys.length = min cnt xs.length ∧ TinOut o (m + cnt)
theorem prod_le {l : List Nat} (h : ∀ x ∈ l, x ≤ 3) (hl : l.length ≤ 2) : prodOf l ≤ 9 := by
  match l, hl with
  | [], _ => decide
  | [a], _ => have := h a (by simp); simp [prodOf]; omega
  | [a, b], _ =>
    have h1 := h a (by simp)
    have h2 := h b (by simp)
    simp only [prodOf, List.foldr_cons, List.foldr_nil, Nat.mul_one]
    exact Nat.le_trans (Nat.mul_le_mul h1 h2) (by decide)
structure FdOk (ss : List Nat) (many j : Nat) (f : Fd) : Prop where
  n : f.n = ss.getD j 0
  few : f.eyes.length ≤ 2
  asc : Asc f.eyes
  lt : ∀ e ∈ f.eyes, e < many
  tab : f.tab.length = prodOf (f.eyes.map fun e => ss.getD e 0)
  tell : ∀ x ∈ f.tab, x < f.n
set_option maxHeartbeats 40000000 in
theorem wr_hall {φ : Fn} (S : SpTake φ) (S1 : SpOf φ) (S2 : SpPick φ) {d : PyData} {m many most : Nat} (ht : TinR d m) (hm : many ≤ 16) (hm1 : 1 ≤ most) (hm2 : most ≤ 3) (hc : m + 300 ≤ 100000) :
    WR φ c__law_hall [.own none d, .dat (ic many), .dat (ic most)] fun v o => ∃ h, v = .dat (houseT h) ∧ h.length = many ∧ HouseOk h ∧ TinOut o (m + 13 * many) := by
  obtain ⟨menu, hmenu, hmn1, hmn2, hmn3⟩ := menu_of hm1 hm2
  refine wr_of rfl ?_
  show WSs φ [_, _, _] [some (.own (some 0) d), some (.dat (ic many)), some (.dat (ic most)), none, none, none, none, none, none, none, none] _
  repeat eq_refl
  refine we_lcI (List.range many) ic (fun don acc ρ => ∃ (d' : PyData) (ss : List Nat) (x5 : Option SV), ρ = [some (.own (some 0) d'), some (.dat (ic many)), some (.dat (ic most)), none, none, x5, none, none, none, none, none] ∧ acc = ss.map ic ∧ ss.length = don.length ∧ (∀ x ∈ ss, 1 ≤ x ∧ x ≤ 3) ∧ TinR d' (m + don.length)) ?_
  repeat eq_refl
  refine ⟨rfl, ⟨d, [], none, rfl, rfl, rfl, fun x hx => absurd hx (by simp), ht⟩, ?_, ?_⟩
  · rintro don a rest acc _ e ⟨d', ss, x5, rfl, rfl, h1, h2, h3⟩
    obtain ⟨e1, e2⟩ := range_split e
    have hdl : don.length = a := by rw [e1]; simp
    nofun
    repeat eq_refl
    refine pw_of hmenu ?_
    repeat eq_refl
    refine wf_mono (S1 d' _ (menu.map ic) _ h3 rfl (by simpa using hmn1) (by simp; omega) (by omega)) ?_
    rintro _ o ⟨x, hx, rfl, d2, ht2, ho⟩
    obtain ⟨x, hx2, rfl⟩ := List.mem_map.mp hx
    rw [giveB_own ho]
    nofun
    refine ⟨d2, ss ++ [x], _, rfl, by simp, by simp [h1], fun y hy => ?_, by simpa [Nat.add_assoc] using ht2⟩
    rcases List.mem_append.mp hy with z | z
    · exact h2 y z
    · rw [List.mem_singleton] at z; subst z; exact hmn3 _ hx2
  rintro acc _ ⟨d1, ss, x5, rfl, rfl, h1, h2, h3⟩
  simp only [List.length_range] at h1 h3
  have hss : ∀ e, ss.getD e 0 ≤ 3 := fun e => by
    by_cases he : e < ss.length
    · have : ss.getD e 0 = ss[e] := by simp [List.getD_eq_getElem?_getD, he]
      rw [this]; exact (h2 _ (List.getElem_mem he)).2
    · have : ss.getD e 0 = 0 := by simp [List.getD_eq_getElem?_getD, List.getElem?_eq_none (Nat.le_of_not_lt he)]
      omega
  have hss1 : ∀ e, e < many → (ss.map ic)[e]? = some (ic (ss.getD e 0)) ∧ 1 ≤ ss.getD e 0 := fun e he => by
    have he' : e < ss.length := by omega
    have : ss.getD e 0 = ss[e] := by simp [List.getD_eq_getElem?_getD, he']
    rw [this]; exact ⟨by simp [he'], (h2 _ (List.getElem_mem he')).1⟩
  nofun
  repeat eq_refl
  refine ⟨_, rfl, ?_⟩
  nofun
  refine wss_for (List.range many) ic (fun don ρ => ∃ (d' : PyData) (fs : List Fd) (x5 x6 x7 x8 x9 : Option SV), ρ = [some (.own (some 0) d'), some (.dat (ic many)), some (.dat (ic most)), some (.own none (.list (ss.map ic))), some (.own none (.list (fs.map fdT))), x5, x6, x7, x8, x9, none] ∧ fs.length = don.length ∧ (∀ j f, fs[j]? = some f → FdOk ss many j f) ∧ TinR d' (m + many + 12 * don.length)) ?_
  repeat eq_refl
  refine ⟨rfl, ⟨d1, [], none, none, none, none, none, rfl, rfl, fun j f hj => absurd hj (by simp), h3⟩, ?_, ?_⟩
  · rintro don j rest _ e ⟨d', fs, x5, x6, x7, x8, x9, rfl, k1, k2, k3⟩
    obtain ⟨e1, e2⟩ := range_split e
    have hdl : don.length = j := by rw [e1]; simp
    have hmj : 12 * don.length ≤ 180 := by omega
    repeat eq_refl
    refine pw_lrange (by omega) ?_
    repeat eq_refl
    refine wf_mono (S1 d' _ ([0, 1, 1, 2, 2, 2].map ic) _ k3 rfl (by decide) (by decide) (by omega)) ?_
    rintro _ o ⟨x, hx, rfl, d2, ht2, ho⟩
    obtain ⟨cnt, hx2, rfl⟩ := List.mem_map.mp hx
    have hcnt : cnt ≤ 2 := by
      have : ∀ y ∈ [0, 1, 1, 2, 2, 2], y ≤ 2 := by decide
      exact this cnt hx2
    rw [giveB_own ho]
    repeat eq_refl
    refine wf_mono (S2 d2 _ ((List.range many).map ic) _ cnt ht2 rfl (by simp; omega) (by omega)) ?_
    rintro _ o2 ⟨ys, zs, rfl, hp, hyl, d3, ht3, ho2⟩
    obtain ⟨ns, rfl, hnd, hlt⟩ := nats_of hp
    rw [giveB_own ho2]
    repeat eq_refl
    refine pw_sortedN ?_
    have hel : (srtL ns).length ≤ 2 := by
      rw [len_srtL]
      simp at hyl
      omega
    have helt : ∀ x ∈ srtL ns, x < many := fun x hx => hlt x (mem_srtL.mp hx)
    repeat eq_refl
    nofun
    refine wss_for (srtL ns) ic (fun dn ρ => ∃ x8, ρ = [some (.own (some 0) d3), some (.dat (ic many)), some (.dat (ic most)), some (.own none (.list (ss.map ic))), some (.own none (.list (fs.map fdT))), some (.dat (ic j)), some (.dat (rowD (srtL ns))), some (.dat (ic (prodOf (dn.map fun e => ss.getD e 0)))), x8, x9, none]) ?_
    repeat eq_refl
    refine ⟨rfl, ⟨x8, rfl⟩, ?_, ?_⟩
    · rintro dn q rst _ e3 ⟨y8, rfl⟩
      have hq : q < many := helt q (by rw [e3]; simp)
      have hb := hss q
      repeat eq_refl
      refine pw_idx rfl (hss1 q hq).1 ?_
      repeat eq_refl
      refine ⟨rfl, some (.dat (ic q)), ?_⟩
      rw [List.map_append, List.map_cons, List.map_nil, prod_snoc]
      rfl
    · rintro _ ⟨y8, rfl⟩
      have hpr : prodOf ((srtL ns).map fun e => ss.getD e 0) ≤ 9 := prod_le (fun x hx => by
        obtain ⟨e, _, rfl⟩ := List.mem_map.mp hx
        exact hss e) (by simpa using hel)
      repeat eq_refl
      refine we_lcI (List.range (prodOf ((srtL ns).map fun e => ss.getD e 0))) ic (fun dn acc ρ => ∃ (d4 : PyData) (ts : List Nat) (x10 : Option SV), ρ = [some (.own (some 0) d4), some (.dat (ic many)), some (.dat (ic most)), some (.own none (.list (ss.map ic))), some (.own none (.list (fs.map fdT))), some (.dat (ic j)), some (.dat (rowD (srtL ns))), some (.dat (ic (prodOf ((srtL ns).map fun e => ss.getD e 0)))), y8, x9, x10] ∧ acc = ts.map ic ∧ ts.length = dn.length ∧ (∀ x ∈ ts, x < ss.getD j 0) ∧ TinR d4 (m + many + 12 * don.length + 1 + cnt + dn.length)) ?_
      repeat eq_refl
      refine ⟨rfl, ⟨d3, [], none, rfl, rfl, rfl, fun x hx => absurd hx (by simp), ht3⟩, ?_, ?_⟩
      · rintro dn q rst acc _ e3 ⟨d4, ts, x10, rfl, rfl, l1, l2, l3⟩
        obtain ⟨e4, e5⟩ := range_split e3
        have hdn : dn.length = q := by rw [e4]; simp
        have hb := hss j
        nofun
        repeat eq_refl
        refine pw_idx rfl (hss1 j e2).1 ?_
        repeat eq_refl
        refine wf_take S l3 (hss1 j e2).2 (by omega) (by omega) fun r d5 o hr ht5 ho => ?_
        rw [giveB_own ho]
        nofun
        refine ⟨d5, ts ++ [r], _, rfl, by simp, by simp [l1], fun y hy => ?_, by simpa [Nat.add_assoc] using ht5⟩
        rcases List.mem_append.mp hy with z | z
        · exact l2 y z
        · rw [List.mem_singleton] at z; subst z; exact hr
      · rintro acc _ ⟨d4, ts, x10, rfl, rfl, l1, l2, l3⟩
        simp only [List.length_range] at l1 l3
        nofun
        repeat eq_refl
        refine pw_idx rfl (hss1 j e2).1 ?_
        repeat eq_refl
        refine pw_slT ?_
        repeat eq_refl
        refine lw_of (by simp [k1]; omega) ?_
        repeat eq_refl
        nofun
        refine ⟨rfl, d4, fs ++ [⟨ss.getD j 0, srtL ns, ts⟩], _, _, _, _, _, by rw [List.map_append]; rfl, by simp [k1], fun q f hq => ?_, ?_⟩
        · by_cases hqj : q < fs.length
          · rw [List.getElem?_append_left hqj] at hq
            exact k2 q f hq
          · rw [List.getElem?_append_right (by omega)] at hq
            have hq0 : q - fs.length = 0 := by
              cases hz : q - fs.length with
              | zero => rfl
              | succ k => rw [hz] at hq; simp at hq
            rw [hq0] at hq
            simp at hq
            subst hq
            have hqe : q = j := by omega
            subst hqe
            exact ⟨rfl, hel, asc_srtL hnd, helt, l1, l2⟩
        · refine l3.le ?_
          rw [List.length_append, List.length_singleton]
          omega
  · rintro _ ⟨d', fs, x5, x6, x7, x8, x9, rfl, k1, k2, k3⟩
    simp only [List.length_range] at k1 k3
    repeat eq_refl
    have hsz : ∀ e, e < many → szAt fs e = ss.getD e 0 := fun e he => by
      have he' : e < fs.length := by omega
      unfold szAt
      rw [List.getElem?_eq_getElem he']
      exact (k2 e _ (List.getElem?_eq_getElem he')).n
    have hall : ∀ f ∈ fs, ∃ j, j < many ∧ FdOk ss many j f := fun f hf => by
      obtain ⟨j, hj, rfl⟩ := List.mem_iff_getElem.mp hf
      exact ⟨j, by omega, k2 j _ (List.getElem?_eq_getElem hj)⟩
    refine ⟨fs, rfl, k1, ⟨fun f hf => ?_, fun f hf => ?_, fun f hf => ?_⟩, d', k3.le (by omega), rfl⟩
    · obtain ⟨j, hj, q⟩ := hall f hf
      rw [q.n]; exact ⟨(hss1 j hj).2, hss j⟩
    · obtain ⟨j, hj, q⟩ := hall f hf
      exact ⟨q.few, q.asc, fun e he => by rw [k1]; exact q.lt e he⟩
    · obtain ⟨j, hj, q⟩ := hall f hf
      refine ⟨?_, q.tell⟩
      rw [q.tab]
      congr 1
      exact List.map_congr_left fun e he => (hsz e (q.lt e he)).symm
end K10

set_option Elab.async false
set_option linter.all false
set_option autoImplicit false
set_option maxRecDepth 100000
set_option maxHeartbeats 4000000
namespace K10
open PySem LI
local macro_rules | `(tactic| eq_refl) => `(tactic| first
  | refine we_cst ?_ | refine we_prim ?_ | refine we_var rfl ?_ | refine we_varo rfl ?_ | refine wo_var rfl ?_ | refine wo_cons rfl ?_ | refine wo_nil ?_
  | refine rw_inr ?_ | refine rw_dat rfl ?_ | refine rw_own rfl ?_ | refine rw_nil ?_
  | refine pw_idxc rfl rfl ?_ | refine pw_add ?_ | refine pw_sub ?_ | refine pw_neg ?_ | refine pw_lt ?_ | refine pw_le ?_ | refine pw_gt ?_ | refine pw_ge ?_ | refine pw_int ?_ | refine pw_intb ?_ | refine pw_abs ?_ | refine pw_min2 ?_ | refine pw_isnone ?_ | refine pw_notnone ?_ | refine pw_len rfl ?_ | refine pw_tuple rfl ?_ | refine pw_list rfl ?_ | refine pw_isi rfl ?_
  | refine pw_mod (by first | decide | omega) ?_ | refine pw_fdiv (by first | decide | omega) (by first | decide | omega) ?_ | refine pw_mulr (by first | decide | omega) (by first | decide | omega) ?_ | refine pw_mull (by first | decide | omega) (by first | decide | omega) ?_
  | refine wa_plain ?_ | refine wa_nil ?_ | refine wa_false ?_ | refine wa_lend rfl ?_ | refine wa_dat rfl ?_ | refine wa_true rfl ?_ | refine bk_none ?_
  | refine sw_of rfl ?_ | refine nw_of (by omega) ?_ | refine xw_of rfl rfl rfl ?_ | refine ow_of rfl ?_ | refine dw_of rfl ?_ | refine lw_of (Nat.le_of_ble_eq_true rfl) ?_
  | refine wl_nil ?_ | refine wl_star ?_ | refine wl_cons rfl ?_ | refine wv_nil ?_ | refine wv_cons ?_
  | refine we_call ?_ | refine we_tup ?_ | refine we_lst ?_ | refine we_and ?_ | refine we_or ?_ | refine we_not ?_ | refine we_ite ?_ | refine we_sl2 ?_ | refine we_popAt rfl ?_
  | refine tw_bool ?_ | refine tw_list ?_ | refine tw_tuple ?_ | refine tw_int ?_ | refine tw_none ?_ | refine wc_none ?_ | refine wc_some ?_ | refine wt_of ?_
  | refine ts_one ?_ | refine ts_two ?_ | refine ts_three ?_ | refine wi_seq ?_ | refine wi_enum ?_ | refine wi_zip ?_ | refine wi_rng1 ?_
  | refine own_ok rfl ?_ | refine endq_ret ?_ | refine endq_nx ?_ | refine go_nx ?_ | refine go_ret ?_ | refine go_true ?_ | refine go_false ?_
  | refine wss_asg ?_ | refine wss_pasg ?_ | refine wss_uasg ?_ | refine wss_seti ?_ | refine wss_app rfl ?_ | refine wss_expr ?_ | refine wss_ite ?_ | refine wss_retd rfl ?_ | refine wss_reto rfl ?_ | refine wss_ret rfl ?_ | refine wss_retN ?_ | refine wss_nil ?_)
local macro_rules | `(tactic| nofun) => `(tactic| try dsimp only [List.set_cons_succ, List.set_cons_zero, setV_dat, setV_own, sv_dat, sv_own, wipeR, restR, giveB, upB, Option.map_some, Option.map_none, List.getElem?_cons_succ, List.getElem?_cons_zero, Option.getD_some])

/-! ### lists in the place of tuples; what is the same -/
mutual
def lsD : PyData → PyData
  | .list xs => .list (lsDs xs)
  | .tuple xs => .list (lsDs xs)
  | .none => .none
  | .bool b => .bool b
  | .int i => .int i
  | .str x => .str x
  | .dict k => .dict k
def lsDs : List PyData → List PyData
  | [] => []
  | x :: r => lsD x :: lsDs r
end
theorem lsDs_map : ∀ xs : List PyData, lsDs xs = xs.map lsD
  | [] => by simp only [lsDs, List.map_nil]
  | x :: r => by simp only [lsDs, List.map_cons, lsDs_map r]
def lsV : PyData → SV
  | .list xs => .own none (.list (xs.map lsD))
  | .tuple xs => .own none (.list (xs.map lsD))
  | d => .dat d
theorem lsV_d (d : PyData) : (lsV d).d = lsD d := by
  cases d <;> simp only [lsV, lsD, lsDs_map, sv_dat, sv_own]
theorem depth_seq {xs : List PyData} {n : Nat} (h : PyData.depthAll xs < n) : ∀ x ∈ xs, PyData.depth x < n := by
  induction xs with
  | nil => intro x hx; cases hx
  | cons y r ih =>
    intro x hx
    simp only [PyData.depthAll] at h
    rcases List.mem_cons.mp hx with rfl | hx
    · omega
    · exact ih (by omega) x hx
theorem lay_seq {xs : List PyData} (h : PyData.canLayAll0 xs = true) : ∀ x ∈ xs, PyData.canLay0 x = true := by
  induction xs with
  | nil => intro x hx; cases hx
  | cons y r ih =>
    intro x hx
    simp only [PyData.canLayAll0, Bool.and_eq_true] at h
    rcases List.mem_cons.mp hx with rfl | hx
    · exact h.1
    · exact ih h.2 x hx
section
variable {pg : List (Str × FnD)}
theorem wf_lists (L : pg.lookup ("_law_lists" : Str) = some c__law_lists) : ∀ (n : Nat) (d : PyData), PyData.canLay0 d = true → PyData.depth d < n → WF (phi pg n) "_law_lists" [.dat d] fun v _ => v = lsV d := by
  intro n
  induction n with
  | zero => intro d _ h; omega
  | succ n ih =>
    intro d hl hd
    refine wf_phi L ?_
    have seqs : ∀ (d : PyData) (xs : List PyData), seqOf d = some xs → ([Kd.list, .tuple].any fun k => kindIs k d) = true → noDict d = true → PyData.canLayAll0 xs = true → PyData.depthAll xs < n → WR (phi pg n) c__law_lists [.dat d] fun v _ => v = .own none (.list (xs.map lsD)) := by
      intro d xs h1 h2 h3 h4 h5
      refine wr_of rfl ?_
      show WSs (phi pg n) [_] [some (.dat d), none] _
      repeat eq_refl
      refine pw_isi h3 ?_
      rw [h2]
      repeat eq_refl
      refine we_lc xs id lsD ?_
      repeat eq_refl
      refine sw_of h1 ?_
      refine ⟨by simp, fun x hx => ?_, ?_⟩
      · nofun
        repeat eq_refl
        refine wf_mono (ih x (lay_seq h4 x hx) (depth_seq h5 x hx)) ?_
        rintro _ o rfl
        exact ⟨lsV_d x, rfl⟩
      · repeat eq_refl
    cases d with
    | list xs =>
      simp only [PyData.canLay0] at hl
      simp only [PyData.depth] at hd
      exact seqs (.list xs) xs rfl rfl rfl hl (by omega)
    | tuple xs =>
      simp only [PyData.canLay0] at hl
      simp only [PyData.depth] at hd
      exact seqs (.tuple xs) xs rfl rfl rfl hl (by omega)
    | dict k => simp [PyData.canLay0] at hl
    | none =>
      refine wr_of rfl ?_
      show WSs (phi pg n) [_] [some (.dat _), none] _
      repeat eq_refl
    | bool b =>
      refine wr_of rfl ?_
      show WSs (phi pg n) [_] [some (.dat _), none] _
      repeat eq_refl
    | int b =>
      refine wr_of rfl ?_
      show WSs (phi pg n) [_] [some (.dat _), none] _
      repeat eq_refl
    | str b =>
      refine wr_of rfl ?_
      show WSs (phi pg n) [_] [some (.dat _), none] _
      repeat eq_refl
theorem pw_eqB {a b : Bool} {Q : SV → Prop} (q : Q (.dat (.bool (a == b)))) : PW .eq [.bool a, .bool b] Q := pw_eq rfl rfl (by cases a <;> cases b <;> rfl) q
theorem pw_neB {a b : Bool} {Q : SV → Prop} (q : Q (.dat (.bool (!(a == b))))) : PW .ne [.bool a, .bool b] Q := pw_ne rfl rfl (by cases a <;> cases b <;> rfl) q
theorem shaped_int (i : Int) : SeqAt.shaped (.int i) = true := by unfold SeqAt.shaped; simp [PyData.canLay0, PyData.depth]
theorem shaped_str {i : Str} (h : PyData.canLay0 (.str i) = true) : SeqAt.shaped (.str i) = true := by unfold SeqAt.shaped; rw [h]; simp [PyData.depth]
theorem pw_eqI {i j : Int} {Q : SV → Prop} (q : Q (.dat (.bool (i == j)))) : PW .eq [.int i, .int j] Q := pw_eq (shaped_int i) (shaped_int j) (by simp [PyData.eqv]) q
theorem zipD_self (xs : List PyData) : zipD xs xs = xs.map fun x => .tuple [x, x] := by
  induction xs with
  | nil => rfl
  | cons x r ih => simp only [zipD, List.map_cons, ih]
theorem wf_same (L : pg.lookup ("_law_same" : Str) = some c__law_same) : ∀ (n : Nat) (d : PyData), PyData.canLay0 d = true → PyData.depth d < n → WF (phi pg n) "_law_same" [.dat d, .dat d] fun v _ => v = .dat (.bool true) := by
  intro n
  induction n with
  | zero => intro d _ h; omega
  | succ n ih =>
    intro d hl hd
    refine wf_phi L ?_
    have seqs : ∀ (d : PyData) (xs : List PyData), seqOf d = some xs → ([Kd.list, .tuple].any fun k => kindIs k d) = true → noDict d = true → PyData.canLayAll0 xs = true → PyData.depthAll xs < n → WR (phi pg n) c__law_same [.dat d, .dat d] fun v _ => v = .dat (.bool true) := by
      intro d xs h1 h2 h3 h4 h5
      refine wr_of rfl ?_
      show WSs (phi pg n) [_, _, _] [some (.dat d), some (.dat d), none, none] _
      repeat eq_refl
      refine pw_isi h3 ?_
      rw [h2]
      repeat eq_refl
      refine pw_isi h3 ?_
      repeat eq_refl
      refine pw_isi h3 ?_
      repeat eq_refl
      refine pw_neB ?_
      rw [show (([Kd.list].any fun k => kindIs k d) == ([Kd.list].any fun k => kindIs k d)) = true by simp]
      repeat eq_refl
      refine pw_isi h3 ?_
      repeat eq_refl
      refine pw_isi h3 ?_
      repeat eq_refl
      refine pw_neB ?_
      rw [show (([Kd.tuple].any fun k => kindIs k d) == ([Kd.tuple].any fun k => kindIs k d)) = true by simp]
      repeat eq_refl
      refine pw_len h1 ?_
      repeat eq_refl
      refine pw_len h1 ?_
      repeat eq_refl
      refine pw_eqI ?_
      rw [show ((xs.length : Int) == (xs.length : Int)) = true by simp]
      repeat eq_refl
      refine we_lc xs (fun x => .tuple [x, x]) (fun _ => .bool true) ?_
      repeat eq_refl
      refine sw_of h1 (sw_of h1 ?_)
      refine ⟨zipD_self xs, fun x hx => ?_, ?_⟩
      · nofun
        repeat eq_refl
        refine wf_mono (ih x (lay_seq h4 x hx) (depth_seq h5 x hx)) ?_
        rintro _ o rfl
        exact ⟨rfl, rfl⟩
      · repeat eq_refl
        refine pw_all (l := xs) (f := fun _ => true) ?_
        repeat eq_refl
        simp
    cases d with
    | list xs =>
      simp only [PyData.canLay0] at hl
      simp only [PyData.depth] at hd
      exact seqs (.list xs) xs rfl rfl rfl hl (by omega)
    | tuple xs =>
      simp only [PyData.canLay0] at hl
      simp only [PyData.depth] at hd
      exact seqs (.tuple xs) xs rfl rfl rfl hl (by omega)
    | dict k => simp [PyData.canLay0] at hl
    | none =>
      refine wr_of rfl ?_
      show WSs (phi pg n) [_, _, _] [some (.dat _), some (.dat _), none, none] _
      repeat eq_refl
      refine pw_eq rfl rfl rfl ?_
      repeat eq_refl
      refine pw_eqB ?_
      repeat eq_refl
      refine pw_eqB ?_
      repeat eq_refl
    | bool b =>
      refine wr_of rfl ?_
      show WSs (phi pg n) [_, _, _] [some (.dat _), some (.dat _), none, none] _
      cases b
      all_goals
        repeat eq_refl
        refine pw_eqB ?_
        repeat eq_refl
        refine pw_eqB ?_
        repeat eq_refl
        refine pw_eqB ?_
        repeat eq_refl
    | int b =>
      refine wr_of rfl ?_
      show WSs (phi pg n) [_, _, _] [some (.dat _), some (.dat _), none, none] _
      repeat eq_refl
      refine pw_eqI ?_
      rw [show (b == b) = true by simp]
      repeat eq_refl
    | str b =>
      refine wr_of rfl ?_
      show WSs (phi pg n) [_, _, _] [some (.dat _), some (.dat _), none, none] _
      repeat eq_refl
      refine pw_eq (t := true) (shaped_str hl) (shaped_str hl) (by simp [PyData.eqv]) ?_
      repeat eq_refl
      refine pw_eqB ?_
      repeat eq_refl
      refine pw_eqB ?_
      repeat eq_refl
end
end K10

set_option Elab.async false
set_option linter.all false
set_option autoImplicit false
set_option maxRecDepth 100000
set_option maxHeartbeats 4000000
namespace K10
open PySem LI
local macro_rules | `(tactic| eq_refl) => `(tactic| first
  | refine we_cst ?_ | refine we_prim ?_ | refine we_var rfl ?_ | refine we_varo rfl ?_ | refine wo_var rfl ?_ | refine wo_cons rfl ?_ | refine wo_nil ?_
  | refine rw_inr ?_ | refine rw_dat rfl ?_ | refine rw_own rfl ?_ | refine rw_nil ?_
  | refine pw_idxc rfl rfl ?_ | refine pw_add ?_ | refine pw_sub ?_ | refine pw_neg ?_ | refine pw_lt ?_ | refine pw_le ?_ | refine pw_gt ?_ | refine pw_ge ?_ | refine pw_int ?_ | refine pw_intb ?_ | refine pw_abs ?_ | refine pw_min2 ?_ | refine pw_isnone ?_ | refine pw_notnone ?_ | refine pw_len rfl ?_ | refine pw_tuple rfl ?_ | refine pw_list rfl ?_ | refine pw_isi rfl ?_
  | refine pw_mod (by first | decide | omega) ?_ | refine pw_fdiv (by first | decide | omega) (by first | decide | omega) ?_ | refine pw_mulr (by first | decide | omega) (by first | decide | omega) ?_ | refine pw_mull (by first | decide | omega) (by first | decide | omega) ?_
  | refine wa_plain ?_ | refine wa_nil ?_ | refine wa_false ?_ | refine wa_lend rfl ?_ | refine wa_dat rfl ?_ | refine wa_true rfl ?_ | refine bk_none ?_
  | refine sw_of rfl ?_ | refine nw_of (by omega) ?_ | refine xw_of rfl rfl rfl ?_ | refine ow_of rfl ?_ | refine dw_of rfl ?_ | refine lw_of (Nat.le_of_ble_eq_true rfl) ?_
  | refine wl_nil ?_ | refine wl_star ?_ | refine wl_cons rfl ?_ | refine wv_nil ?_ | refine wv_cons ?_
  | refine we_call ?_ | refine we_tup ?_ | refine we_lst ?_ | refine we_and ?_ | refine we_or ?_ | refine we_not ?_ | refine we_ite ?_ | refine we_sl2 ?_ | refine we_popAt rfl ?_
  | refine tw_bool ?_ | refine tw_list ?_ | refine tw_tuple ?_ | refine tw_int ?_ | refine tw_none ?_ | refine wc_none ?_ | refine wc_some ?_ | refine wt_of ?_
  | refine ts_one ?_ | refine ts_two ?_ | refine ts_three ?_ | refine wi_seq ?_ | refine wi_enum ?_ | refine wi_zip ?_ | refine wi_rng1 ?_
  | refine own_ok rfl ?_ | refine endq_ret ?_ | refine endq_nx ?_ | refine go_nx ?_ | refine go_ret ?_ | refine go_true ?_ | refine go_false ?_
  | refine wss_asg ?_ | refine wss_pasg ?_ | refine wss_uasg ?_ | refine wss_seti ?_ | refine wss_app rfl ?_ | refine wss_expr ?_ | refine wss_ite ?_ | refine wss_retd rfl ?_ | refine wss_reto rfl ?_ | refine wss_ret rfl ?_ | refine wss_retN ?_ | refine wss_nil ?_)
local macro_rules | `(tactic| nofun) => `(tactic| try dsimp only [List.set_cons_succ, List.set_cons_zero, setV_dat, setV_own, sv_dat, sv_own, wipeR, restR, giveB, upB, Option.map_some, Option.map_none, List.getElem?_cons_succ, List.getElem?_cons_zero, Option.getD_some])

/-! ### the script's numbers -/
theorem cut_lo (ns : List Int) (k : Nat) : pSl false true [scrD ns, .int (k : Int)] = some (.own none (.list ((ns.take k).map .int))) := by
  simp only [scrD, pSl, slParts, Option.bind_some, cutD, sIxD, dls]
  rw [if_neg (by omega)]
  simp
theorem cut_mid (ns : List Int) (k : Nat) : ∃ xs : List Int, pSl true true [scrD ns, .int (k : Int), .int 63] = some (.own none (.list (xs.map .int))) ∧ xs.length ≤ 63 ∧ (xs ≠ [] → k < ns.length) := by
  refine ⟨(ns.drop (min k ns.length)).take (min 63 ns.length - min k ns.length), ?_, ?_, fun h => ?_⟩
  · simp only [scrD, pSl, slParts, Option.bind_some, cutD, sIxD, dls]
    rw [if_neg (by omega), if_neg (by omega)]
    simp [List.map_drop, List.map_take]
  · rw [List.length_take]; omega
  · by_cases hk : k < ns.length
    · exact hk
    · exfalso
      apply h
      rw [List.drop_eq_nil_of_le (by omega)]
      simp
theorem wr_cells {φ : Fn} {ns : List Int} {k : Nat} (h1 : 1 ≤ k) (h2 : k ≤ 16) : WR φ c__law_cells [.dat (scrD ns), .dat (ic k)] fun v _ => ∃ cs : List Int, v = .own none (.list (cs.map .int)) ∧ 1 ≤ cs.length ∧ cs.length ≤ k := by
  refine wr_of rfl ?_
  show WSs φ [_, _, _] [some (.dat (scrD ns)), some (.dat (ic k)), none, none, none, none] _
  have main : ∀ cs : List Int, 1 ≤ cs.length → cs.length ≤ k → (k < ns.length → cs.length = k) → WSs φ (c__law_cells.body.drop 1) [some (.dat (scrD ns)), some (.dat (ic k)), some (.own none (.list (cs.map .int))), none, none, none] (EndQ fun v _ => ∃ cs : List Int, v = .own none (.list (cs.map .int)) ∧ 1 ≤ cs.length ∧ cs.length ≤ k) := by
    intro cs l1 l2 l3
    show WSs φ [_, _] _ _
    obtain ⟨xs, c1, c2, c3⟩ := cut_mid ns k
    refine wss_for (List.range xs.length) (fun p => .tuple [ic p, .int (xs.getD p 0)]) (fun don ρ => ∃ (cs : List Int) (x3 x4 x5 : Option SV), ρ = [some (.dat (scrD ns)), some (.dat (ic k)), some (.own none (.list (cs.map .int))), x3, x4, x5] ∧ 1 ≤ cs.length ∧ cs.length ≤ k ∧ (k < ns.length → cs.length = k)) ?_
    repeat eq_refl
    refine ⟨_, c1, ?_⟩
    repeat eq_refl
    refine ⟨enumD_gen .int 0 xs, ⟨cs, none, none, none, rfl, l1, l2, l3⟩, ?_, ?_⟩
    · rintro don p rest _ e ⟨cs, x3, x4, x5, rfl, m1, m2, m3⟩
      obtain ⟨e1, e2⟩ := range_split e
      have hk : k < ns.length := c3 (fun z => by rw [z] at e2; simp at e2)
      have hm := m3 hk
      have hlt : p % k < cs.length := by rw [hm]; exact Nat.mod_lt _ h1
      repeat eq_refl
      refine pw_idx (i := p % k) (xs := cs.map .int) rfl (by rw [List.getElem?_map, List.getElem?_eq_getElem hlt]; rfl) ?_
      repeat eq_refl
      refine xw_of (k := ((p % k : Nat) : Int)) rfl rfl (ixD_nat (by simpa using hlt)) ?_
      repeat eq_refl
      nofun
      refine ⟨rfl, cs.set (p % k) (cs[p % k] + xs.getD p 0 * (p + 2)), _, _, _, by rw [List.map_set], by simpa using m1, by simpa using m2, fun h => by simpa using m3 h⟩
    · rintro _ ⟨cs, x3, x4, x5, rfl, m1, m2, m3⟩
      repeat eq_refl
      exact ⟨cs, rfl, m1, m2⟩
  repeat eq_refl
  refine pw_of (cut_lo ns k) ?_
  repeat eq_refl
  cases ns with
  | nil =>
    simp only [List.take_nil, List.map_nil]
    repeat eq_refl
    exact main [0] (by simp) (by simpa using h1) (fun h => absurd h (by simp))
  | cons a r =>
    obtain ⟨k', rfl⟩ : ∃ k', k = k' + 1 := ⟨k - 1, by omega⟩
    refine ⟨fun _ => ?_, fun h => absurd h (by simp)⟩
    exact main ((a :: r).take (k' + 1)) (by simp) (by simp; omega) (fun h => by rw [List.length_take]; omega)
theorem wr_box {φ : Fn} {cs : List Int} {k : Nat} (h : k < cs.length) (hk : k ≤ 1000) : WR φ c__law_box [.dat (.list (cs.map .int)), .dat (ic k)] fun v _ => ∃ d, v = .own none d ∧ TinR d 0 := by
  refine wr_of rfl ?_
  show WSs φ [_, _] [some (.dat (.list (cs.map .int))), some (.dat (ic k)), none] _
  repeat eq_refl
  refine ⟨fun _ => ?_, fun hn => absurd hn (by simp; omega)⟩
  repeat eq_refl
  refine pw_idx (i := k) (xs := cs.map .int) rfl (by rw [List.getElem?_map, List.getElem?_eq_getElem h]; rfl) ?_
  repeat eq_refl
  refine pw_of (v := .dat (.int (10 ^ 18))) rfl ?_
  repeat eq_refl
  exact ⟨_, rfl, _, _, 0, Nat.le_refl _, rfl⟩
end K10

set_option Elab.async false
set_option linter.all false
set_option autoImplicit false
set_option maxRecDepth 100000
set_option maxHeartbeats 4000000
namespace K10
open PySem LI
local macro_rules | `(tactic| eq_refl) => `(tactic| first
  | refine we_cst ?_ | refine we_prim ?_ | refine we_var rfl ?_ | refine we_varo rfl ?_ | refine wo_var rfl ?_ | refine wo_cons rfl ?_ | refine wo_nil ?_
  | refine rw_inr ?_ | refine rw_dat rfl ?_ | refine rw_own rfl ?_ | refine rw_nil ?_
  | refine pw_idxc rfl rfl ?_ | refine pw_add ?_ | refine pw_sub ?_ | refine pw_neg ?_ | refine pw_lt ?_ | refine pw_le ?_ | refine pw_gt ?_ | refine pw_ge ?_ | refine pw_int ?_ | refine pw_intb ?_ | refine pw_abs ?_ | refine pw_min2 ?_ | refine pw_isnone ?_ | refine pw_notnone ?_ | refine pw_len rfl ?_ | refine pw_tuple rfl ?_ | refine pw_list rfl ?_ | refine pw_isi rfl ?_
  | refine pw_mod (by first | decide | omega) ?_ | refine pw_fdiv (by first | decide | omega) (by first | decide | omega) ?_ | refine pw_mulr (by first | decide | omega) (by first | decide | omega) ?_ | refine pw_mull (by first | decide | omega) (by first | decide | omega) ?_
  | refine wa_plain ?_ | refine wa_nil ?_ | refine wa_false ?_ | refine wa_lend rfl ?_ | refine wa_dat rfl ?_ | refine wa_true rfl ?_ | refine bk_none ?_
  | refine sw_of rfl ?_ | refine nw_of (by omega) ?_ | refine xw_of rfl rfl rfl ?_ | refine ow_of rfl ?_ | refine dw_of rfl ?_ | refine lw_of (Nat.le_of_ble_eq_true rfl) ?_
  | refine wl_nil ?_ | refine wl_star ?_ | refine wl_cons rfl ?_ | refine wv_nil ?_ | refine wv_cons ?_
  | refine we_call ?_ | refine we_tup ?_ | refine we_lst ?_ | refine we_and ?_ | refine we_or ?_ | refine we_not ?_ | refine we_ite ?_ | refine we_sl2 ?_ | refine we_popAt rfl ?_
  | refine tw_bool ?_ | refine tw_list ?_ | refine tw_tuple ?_ | refine tw_int ?_ | refine tw_none ?_ | refine wc_none ?_ | refine wc_some ?_ | refine wt_of ?_
  | refine ts_one ?_ | refine ts_two ?_ | refine ts_three ?_ | refine wi_seq ?_ | refine wi_enum ?_ | refine wi_zip ?_ | refine wi_rng1 ?_
  | refine own_ok rfl ?_ | refine endq_ret ?_ | refine endq_nx ?_ | refine go_nx ?_ | refine go_ret ?_ | refine go_true ?_ | refine go_false ?_
  | refine wss_asg ?_ | refine wss_pasg ?_ | refine wss_uasg ?_ | refine wss_seti ?_ | refine wss_app rfl ?_ | refine wss_expr ?_ | refine wss_ite ?_ | refine wss_retd rfl ?_ | refine wss_reto rfl ?_ | refine wss_ret rfl ?_ | refine wss_retN ?_ | refine wss_nil ?_)
local macro_rules | `(tactic| nofun) => `(tactic| try dsimp only [List.set_cons_succ, List.set_cons_zero, setV_dat, setV_own, sv_dat, sv_own, wipeR, restR, giveB, upB, Option.map_some, Option.map_none, List.getElem?_cons_succ, List.getElem?_cons_zero, Option.getD_some])

/-! ### the law's own boxes -/
theorem flat_snoc {α β : Type} (f : α → List β) (l : List α) (a : α) : (l ++ [a]).flatMap f = l.flatMap f ++ f a := by simp
theorem wr_spots {φ : Fn} {sd : PyData} {sets : List (List Nat)} (h : BoxR sd sets) (hl : sets.length ≤ 4) (hs : ∀ s ∈ sets, s.length ≤ 16) : WR φ c__law_spots [.dat sd] fun v _ => v.d = .list ((rowsAmong sets).map rowD) := by
  obtain ⟨ds, e1, hA⟩ := h
  obtain ⟨z, rfl, rfl, hz⟩ := hA.zip
  have hpow : ∀ don : List (PyData × List Nat), (∀ p ∈ don, p ∈ z) → don.length ≤ 4 → (rowsAmong (don.map (·.2))).length ≤ 65536 := fun don hd hl => by
    refine Nat.le_trans (rowsAmong_len (k := 16) _ fun s hs' => ?_) ?_
    · obtain ⟨p, hp, rfl⟩ := List.mem_map.mp hs'
      exact hs p.2 (List.mem_map.mpr ⟨p, hd p hp, rfl⟩)
    · rw [List.length_map]
      exact Nat.le_trans (Nat.pow_le_pow_right (by omega) hl) (by decide)
  have hzl : z.length ≤ 4 := by simpa using hl
  refine wr_of rfl ?_
  show WSs φ [_, _, _] [some (.dat sd), none, none, none, none, none] _
  repeat eq_refl
  nofun
  refine wss_for z (·.1) (fun don ρ => ∃ (v1 : SV) (x2 x3 x4 : Option SV), ρ = [some (.dat sd), some v1, x2, x3, x4, none] ∧ v1.d = .list ((rowsAmong (don.map (·.2))).map rowD)) ?_
  repeat eq_refl
  refine sw_of e1 ?_
  refine ⟨rfl, ⟨_, _, _, _, rfl, rfl⟩, ?_, ?_⟩
  · rintro don p rest _ e ⟨v1, x2, x3, x4, rfl, h1⟩
    have hm : ∀ q ∈ don, q ∈ z := fun q hq => by rw [e]; exact List.mem_append.mpr (.inl hq)
    have hp : p ∈ z := by rw [e]; simp
    have hdl : don.length + 1 ≤ z.length := by rw [e]; simp
    have hb1 := hpow don hm (by omega)
    have hrow := hz p hp
    have hb2 : p.2.length ≤ 16 := hs p.2 (List.mem_map.mpr ⟨p, hp, rfl⟩)
    repeat eq_refl
    nofun
    refine wss_for (rowsAmong (don.map (·.2))) rowD (fun dn ρ => ∃ (x4 : Option SV), ρ = [some (.dat sd), some (.dat (.list ((rowsAmong (don.map (·.2))).map rowD))), some (.dat p.1), some (.own none (.list ((dn.flatMap fun own => p.2.map fun n => own ++ [n]).map rowD))), x4, none]) ?_
    repeat eq_refl
    refine we_varx rfl ?_
    rw [h1]
    repeat eq_refl
    refine ⟨rfl, ⟨_, rfl⟩, ?_, ?_⟩
    · rintro dn own rst _ e2 ⟨y4, rfl⟩
      have ho : own.length ≤ 4 := by
        have : own ∈ rowsAmong (don.map (·.2)) := by rw [e2]; simp
        rw [rowsAmong_row _ own this, List.length_map]
        omega
      have hdn : (dn.flatMap fun own => p.2.map fun n => own ++ [n]).length ≤ 65536 * 16 - 16 := by
        have h2 := flat_len (l := dn) (f := fun own : List Nat => p.2.map fun n => own ++ [n]) (k := 16) fun a _ => by rw [List.length_map]; exact hb2
        have h3 : dn.length + 1 ≤ 65536 := by
          have : (rowsAmong (don.map (·.2))).length = dn.length + (rst.length + 1) := by rw [e2]; simp
          omega
        omega
      have hdz : (dn.flatMap fun own => p.2.map fun n => own ++ [n]).length + 16 ≤ 1000000 := by
        have : (don ++ [p]).length ≤ 4 := by simp; omega
        have h4 := hpow (don ++ [p]) (fun q hq => by
          rcases List.mem_append.mp hq with hq | hq
          · exact hm q hq
          · rw [List.mem_singleton] at hq; rw [hq]; exact hp) this
        rw [List.map_append, List.map_cons, List.map_nil, rowsAmong_snoc, e2, List.flatMap_append, List.length_append] at h4
        omega
      repeat eq_refl
      nofun
      refine we_lc p.2 ic (fun n => rowD (own ++ [n])) ?_
      repeat eq_refl
      refine sw_of hrow ?_
      refine ⟨rfl, fun n hn => ?_, ?_⟩
      · nofun
        repeat eq_refl
        refine pw_addT (by simp; omega) ?_
        exact ⟨by simp, rfl⟩
      · repeat eq_refl
        refine pw_addL (by rw [List.length_map, List.length_map]; omega) ?_
        repeat eq_refl
        nofun
        refine ⟨rfl, some (.dat (rowD own)), ?_⟩
        rw [flat_snoc, List.map_append, List.map_map]
        rfl
    · rintro _ ⟨y4, rfl⟩
      repeat eq_refl
      nofun
      refine ⟨rfl, _, _, _, _, rfl, ?_⟩
      rw [List.map_append, List.map_cons, List.map_nil, rowsAmong_snoc]
      rfl
  · rintro _ ⟨v1, x2, x3, x4, rfl, h1⟩
    refine wss_retx rfl fun w r hw => ?_
    repeat eq_refl
    rw [hw, h1]
theorem wr_rows {φ : Fn} {sd : PyData} {sz : List Nat} (h : Row sd sz) (hl : sz.length ≤ 4) (hs : ∀ s ∈ sz, s ≤ 16) : WR φ c__law_rows [.dat sd] fun v _ => v.d = .list ((rowsAmong (sz.map List.range)).map rowD) := by
  have hpow : ∀ don : List Nat, (∀ p ∈ don, p ∈ sz) → don.length ≤ 4 → (rowsAmong (don.map List.range)).length ≤ 65536 := fun don hd hl => by
    refine Nat.le_trans (rowsAmong_len (k := 16) _ fun s hs' => ?_) ?_
    · obtain ⟨p, hp, rfl⟩ := List.mem_map.mp hs'
      rw [List.length_range]
      exact hs p (hd p hp)
    · rw [List.length_map]
      exact Nat.le_trans (Nat.pow_le_pow_right (by omega) hl) (by decide)
  refine wr_of rfl ?_
  show WSs φ [_, _, _] [some (.dat sd), none, none, none, none, none] _
  repeat eq_refl
  nofun
  refine wss_for sz ic (fun don ρ => ∃ (v1 : SV) (x2 x3 x4 : Option SV), ρ = [some (.dat sd), some v1, x2, x3, x4, none] ∧ v1.d = .list ((rowsAmong (don.map List.range)).map rowD)) ?_
  repeat eq_refl
  refine sw_of h ?_
  refine ⟨rfl, ⟨_, _, _, _, rfl, rfl⟩, ?_, ?_⟩
  · rintro don p rest _ e ⟨v1, x2, x3, x4, rfl, h1⟩
    have hm : ∀ q ∈ don, q ∈ sz := fun q hq => by rw [e]; exact List.mem_append.mpr (.inl hq)
    have hp : p ∈ sz := by rw [e]; simp
    have hdl : don.length + 1 ≤ sz.length := by rw [e]; simp
    have hb2 : p ≤ 16 := hs p hp
    repeat eq_refl
    nofun
    refine wss_for (rowsAmong (don.map List.range)) rowD (fun dn ρ => ∃ (x4 : Option SV), ρ = [some (.dat sd), some (.dat (.list ((rowsAmong (don.map List.range)).map rowD))), some (.dat (ic p)), some (.own none (.list ((dn.flatMap fun own => (List.range p).map fun n => own ++ [n]).map rowD))), x4, none]) ?_
    repeat eq_refl
    refine we_varx rfl ?_
    rw [h1]
    repeat eq_refl
    refine ⟨rfl, ⟨_, rfl⟩, ?_, ?_⟩
    · rintro dn own rst _ e2 ⟨y4, rfl⟩
      have ho : own.length ≤ 4 := by
        have : own ∈ rowsAmong (don.map List.range) := by rw [e2]; simp
        rw [rowsAmong_row _ own this, List.length_map]
        omega
      have hdz : (dn.flatMap fun own => (List.range p).map fun n => own ++ [n]).length + 16 ≤ 1000000 := by
        have : (don ++ [p]).length ≤ 4 := by simp; omega
        have h4 := hpow (don ++ [p]) (fun q hq => by
          rcases List.mem_append.mp hq with hq | hq
          · exact hm q hq
          · rw [List.mem_singleton] at hq; rw [hq]; exact hp) this
        rw [List.map_append, List.map_cons, List.map_nil, rowsAmong_snoc, e2, List.flatMap_append, List.length_append] at h4
        omega
      repeat eq_refl
      nofun
      refine we_lc (List.range p) ic (fun n => rowD (own ++ [n])) ?_
      repeat eq_refl
      refine ⟨rfl, fun n hn => ?_, ?_⟩
      · nofun
        repeat eq_refl
        refine pw_addT (by simp; omega) ?_
        exact ⟨by simp, rfl⟩
      · repeat eq_refl
        refine pw_addL (by rw [List.length_map, List.length_map, List.length_range]; omega) ?_
        repeat eq_refl
        nofun
        refine ⟨rfl, some (.dat (rowD own)), ?_⟩
        rw [flat_snoc, List.map_append, List.map_map]
        rfl
    · rintro _ ⟨y4, rfl⟩
      repeat eq_refl
      nofun
      refine ⟨rfl, _, _, _, _, rfl, ?_⟩
      rw [List.map_append, List.map_cons, List.map_nil, rowsAmong_snoc]
      rfl
  · rintro _ ⟨v1, x2, x3, x4, rfl, h1⟩
    refine wss_retx rfl fun w r hw => ?_
    repeat eq_refl
    rw [hw, h1]
theorem wr_sizes {φ : Fn} {hd pd : PyData} {h : List Fd} {ps : List Nat} (hh : HouseR hd h) (hp : Row pd ps) (hv : ∀ p ∈ ps, p < h.length) : WR φ c__law_sizes [.dat hd, .dat pd] fun v _ => v.d = .list ((ps.map (szAt h)).map ic) := by
  have := run_sizes (φ := φ) hh hp hv
  unfold Runs at this
  obtain ⟨⟨r, o⟩, h1, h2⟩ := Option.map_eq_some_iff.mp this
  unfold WR
  refine ⟨r, o, h1, ?_⟩
  rw [List.map_map]; exact h2
end K10

set_option Elab.async false
set_option linter.all false
set_option autoImplicit false
set_option maxRecDepth 100000
set_option maxHeartbeats 4000000
namespace K10
open PySem LI
local macro_rules | `(tactic| eq_refl) => `(tactic| first
  | refine we_cst ?_ | refine we_prim ?_ | refine we_var rfl ?_ | refine we_varo rfl ?_ | refine wo_var rfl ?_ | refine wo_cons rfl ?_ | refine wo_nil ?_
  | refine rw_inr ?_ | refine rw_dat rfl ?_ | refine rw_own rfl ?_ | refine rw_nil ?_
  | refine pw_idxc rfl rfl ?_ | refine pw_add ?_ | refine pw_sub ?_ | refine pw_neg ?_ | refine pw_lt ?_ | refine pw_le ?_ | refine pw_gt ?_ | refine pw_ge ?_ | refine pw_int ?_ | refine pw_intb ?_ | refine pw_abs ?_ | refine pw_min2 ?_ | refine pw_isnone ?_ | refine pw_notnone ?_ | refine pw_len rfl ?_ | refine pw_tuple rfl ?_ | refine pw_list rfl ?_ | refine pw_isi rfl ?_
  | refine pw_mod (by first | decide | omega) ?_ | refine pw_fdiv (by first | decide | omega) (by first | decide | omega) ?_ | refine pw_mulr (by first | decide | omega) (by first | decide | omega) ?_ | refine pw_mull (by first | decide | omega) (by first | decide | omega) ?_
  | refine wa_plain ?_ | refine wa_nil ?_ | refine wa_false ?_ | refine wa_lend rfl ?_ | refine wa_dat rfl ?_ | refine wa_true rfl ?_ | refine bk_none ?_
  | refine sw_of rfl ?_ | refine nw_of (by omega) ?_ | refine xw_of rfl rfl rfl ?_ | refine ow_of rfl ?_ | refine dw_of rfl ?_ | refine lw_of (Nat.le_of_ble_eq_true rfl) ?_
  | refine wl_nil ?_ | refine wl_star ?_ | refine wl_cons rfl ?_ | refine wv_nil ?_ | refine wv_cons ?_
  | refine we_call ?_ | refine we_tup ?_ | refine we_lst ?_ | refine we_and ?_ | refine we_or ?_ | refine we_not ?_ | refine we_ite ?_ | refine we_sl2 ?_ | refine we_popAt rfl ?_
  | refine tw_bool ?_ | refine tw_list ?_ | refine tw_tuple ?_ | refine tw_int ?_ | refine tw_none ?_ | refine wc_none ?_ | refine wc_some ?_ | refine wt_of ?_
  | refine ts_one ?_ | refine ts_two ?_ | refine ts_three ?_ | refine wi_seq ?_ | refine wi_enum ?_ | refine wi_zip ?_ | refine wi_rng1 ?_
  | refine own_ok rfl ?_ | refine endq_ret ?_ | refine endq_nx ?_ | refine go_nx ?_ | refine go_ret ?_ | refine go_true ?_ | refine go_false ?_
  | refine wss_asg ?_ | refine wss_pasg ?_ | refine wss_uasg ?_ | refine wss_seti ?_ | refine wss_app rfl ?_ | refine wss_expr ?_ | refine wss_ite ?_ | refine wss_retd rfl ?_ | refine wss_reto rfl ?_ | refine wss_ret rfl ?_ | refine wss_retN ?_ | refine wss_nil ?_)
local macro_rules | `(tactic| nofun) => `(tactic| try dsimp only [List.set_cons_succ, List.set_cons_zero, setV_dat, setV_own, sv_dat, sv_own, wipeR, restR, giveB, upB, Option.map_some, Option.map_none, List.getElem?_cons_succ, List.getElem?_cons_zero, Option.getD_some])

theorem pw_sset {d : PyData} {xs : List Nat} {Q : SV → Prop} (h : Row d xs) (h1 : xs.length + 1 < 4096) (h2 : (srtN xs).length < 64) (q : Q (.own none (.list ((srtN xs).map ic)))) : PW .sortedset [d] Q := by
  refine pw_of (v := .own none (.list ((srtN xs).map ic))) ?_ q
  simp only [prim, p1, show seqOf d = _ from h, Option.bind_some, pSet, intsD_row, srtU_cast, List.length_map]
  rw [if_pos ⟨h1, h2⟩]
  simp [dls, Function.comp_def]
theorem zip_parts {n : Nat} : ∀ {a b : List (List Nat)}, a.length = n → b.length = n → zipD (a.map rowD) (b.map rowD) = (List.range n).map fun p => .tuple [rowD (partAt a p), rowD (partAt b p)] := by
  induction n with
  | zero =>
    intro a b ha hb
    rw [List.eq_nil_of_length_eq_zero ha, List.eq_nil_of_length_eq_zero hb]
    rfl
  | succ n ih =>
    intro a b ha hb
    cases a with
    | nil => simp at ha
    | cons x a =>
      cases b with
      | nil => simp at hb
      | cons y b =>
        rw [List.map_cons, List.map_cons, zipD, ih (by simpa using ha) (by simpa using hb), List.range_succ_eq_map, List.map_cons, List.map_map]
        rfl
theorem wr_both {φ : Fn} {h : List Fd} (w : Wf h) {a b : List (List Nat)} (x : IsBox h a) (y : IsBox h b) : WR φ c__law_both [.dat (boxD a), .dat (boxD b)] fun v _ => v = .dat (boxD (joinB h a b)) := by
  refine wr_of rfl ?_
  show WSs φ [_] [some (.dat (boxD a)), some (.dat (boxD b)), none, none] _
  repeat eq_refl
  refine we_lc (List.range h.length) (fun p => .tuple [rowD (partAt a p), rowD (partAt b p)]) (fun p => rowD (srtN (partAt a p ++ partAt b p))) ?_
  repeat eq_refl
  refine ⟨zip_parts x.len y.len, fun p hp => ?_, ?_⟩
  · have hp' := List.mem_range.mp hp
    have l1 : (partAt a p).length ≤ 16 := Nat.le_trans (asc_len (x.asc p hp') (x.at_ p hp')) (w.sz hp').2
    have l2 : (partAt b p).length ≤ 16 := Nat.le_trans (asc_len (y.asc p hp') (y.at_ p hp')) (w.sz hp').2
    have hlen : (srtN (partAt a p ++ partAt b p)).length < 64 := by
      refine Nat.lt_of_le_of_lt (asc_len (n := szAt h p) (asc_srtN _) fun z hz => ?_) (Nat.lt_of_le_of_lt (w.sz hp').2 (by decide))
      rcases List.mem_append.mp (mem_srtN.mp hz) with h1 | h1
      · exact x.at_ p hp' z h1
      · exact y.at_ p hp' z h1
    nofun
    repeat eq_refl
    refine pw_addT (by rw [List.length_map, List.length_map]; omega) ?_
    repeat eq_refl
    refine pw_sset (xs := partAt a p ++ partAt b p) (by unfold Row; simp [seqOf]) (by rw [List.length_append]; omega) hlen ?_
    repeat eq_refl
    exact ⟨rfl, rfl⟩
  · repeat eq_refl
    unfold joinB
    rw [boxD, List.map_map]
    rfl
/-! membership -/
theorem inE_row (x : Nat) : ∀ s : List Nat, inE (ic x) (s.map ic) = decide (x ∈ s)
  | [] => by simp [inE]
  | y :: s => by
    have ih := inE_row x s
    unfold inE at ih ⊢
    rw [List.map_cons, List.any_cons, ih, eqv_ic]
    by_cases h : y = x
    · subst h; simp
    · have : x ≠ y := fun e => h e.symm
      simp [h, this]
theorem flat_row (s : List Nat) : (s.map ic).all flatD = true := by
  rw [List.all_eq_true]
  intro d hd
  obtain ⟨x, _, rfl⟩ := List.mem_map.mp hd
  rfl
theorem pw_notinR {x : Nat} {s : List Nat} {Q : SV → Prop} (q : Q (.dat (.bool (!decide (x ∈ s))))) : PW .notin [ic x, rowD s] Q := by
  refine pw_of (v := .dat (.bool (!decide (x ∈ s)))) ?_ q
  have e : prim .notin [ic x, rowD s] = if flatD (ic x) && (s.map ic).all flatD then dbl (if true then !inE (ic x) (s.map ic) else inE (ic x) (s.map ic)) else none := rfl
  rw [e, flat_row, inE_row]
  rfl
theorem shaped_lrow (s : List Nat) : SeqAt.shaped (.list (s.map ic)) = true := by
  obtain ⟨h1, h2⟩ := lay_row s
  unfold SeqAt.shaped
  rw [Bool.and_eq_true]
  refine ⟨by simp [PyData.canLay0, h1], decide_eq_true ?_⟩
  simp only [PyData.depth]
  omega
theorem shaped_lbox (a : List (List Nat)) : SeqAt.shaped (.list (a.map rowD)) = true := by
  obtain ⟨h1, h2⟩ := lay_box a
  unfold SeqAt.shaped
  rw [Bool.and_eq_true]
  refine ⟨by simp [PyData.canLay0, h1], decide_eq_true ?_⟩
  simp only [PyData.depth]
  omega
theorem eqvL_nil {α : Type} (f : α → PyData) (s : List α) : PyData.eqv (.list (s.map f)) (.list []) = decide (s = []) := by
  cases s with
  | nil => simp [PyData.eqv, PyData.eqvAll]
  | cons x s => simp [PyData.eqv, PyData.eqvAll]
theorem shaped_nil : SeqAt.shaped (.list []) = true := shaped_lrow []
theorem pw_neL {s : List Nat} {Q : SV → Prop} (q : Q (.dat (.bool (!decide (s = []))))) : PW .ne [.list (s.map ic), .list []] Q := pw_ne (shaped_lrow s) shaped_nil (eqvL_nil ic s) q
theorem pw_eqL {s : List Nat} {Q : SV → Prop} (q : Q (.dat (.bool (decide (s = []))))) : PW .eq [.list (s.map ic), .list []] Q := pw_eq (shaped_lrow s) shaped_nil (eqvL_nil ic s) q
theorem pw_eqB2 {s : List (List Nat)} {Q : SV → Prop} (q : Q (.dat (.bool (decide (s = []))))) : PW .eq [.list (s.map rowD), .list []] Q := pw_eq (shaped_lbox s) shaped_nil (eqvL_nil rowD s) q
/-- a box in another -/
def liesIn (a b : List (List Nat)) : Bool := decide (((List.range a.length).filter fun p => !decide (((partAt a p).filter fun x => !decide (x ∈ partAt b p)) = [])) = [])
theorem lies_iff {h : List Fd} {a b : List (List Nat)} (e : a.length = h.length) : liesIn a b = true ↔ Sub h a b := by
  unfold liesIn Sub
  rw [decide_eq_true_eq, List.filter_eq_nil_iff]
  constructor
  · intro H p hp x hx
    have := H p (List.mem_range.mpr (by omega))
    simp only [Bool.not_eq_true', Bool.not_eq_false', decide_eq_true_eq, List.filter_eq_nil_iff, Bool.not_eq_eq_eq_not, Bool.not_true, decide_eq_false_iff_not, Decidable.not_not] at this
    exact this x hx
  · intro H p hp
    simp only [Bool.not_eq_true', Bool.not_eq_false', decide_eq_true_eq, List.filter_eq_nil_iff, Bool.not_eq_eq_eq_not, Bool.not_true, decide_eq_false_iff_not, Decidable.not_not]
    exact H p (by rw [← e]; exact List.mem_range.mp hp)
theorem wr_lies {φ : Fn} {a b : List (List Nat)} (hl : a.length ≤ b.length) : WR φ c__law_lies [.dat (boxD a), .dat (boxD b)] fun v _ => v = .dat (.bool (liesIn a b)) := by
  refine wr_of rfl ?_
  show WSs φ [_] [some (.dat (boxD a)), some (.dat (boxD b)), none, none, none] _
  repeat eq_refl
  refine we_lcif (List.range a.length) (fun p => .tuple [ic p, rowD (partAt a p)]) (fun p => !decide (((partAt a p).filter fun x => !decide (x ∈ partAt b p)) = [])) ic ?_
  repeat eq_refl
  refine ⟨enumD_box a, fun p hp => ?_, ?_⟩
  · have hp' := List.mem_range.mp hp
    have hbp : (b.map rowD)[p]? = some (rowD (partAt b p)) := by
      rw [List.getElem?_map, List.getElem?_eq_getElem (by omega)]
      simp [partAt, List.getElem?_eq_getElem (show p < b.length by omega)]
    nofun
    repeat eq_refl
    refine we_lcif (partAt a p) ic (fun x => !decide (x ∈ partAt b p)) ic ?_
    repeat eq_refl
    refine ⟨rfl, fun x hx => ?_, ?_⟩
    · nofun
      repeat eq_refl
      refine pw_idx rfl hbp ?_
      repeat eq_refl
      refine pw_notinR ?_
      repeat eq_refl
      refine ⟨rfl, fun _ => rfl, fun _ => ?_⟩
      repeat eq_refl
      exact ⟨rfl, rfl⟩
    · repeat eq_refl
      refine pw_neL ?_
      repeat eq_refl
      refine ⟨rfl, fun _ => rfl, fun _ => ?_⟩
      repeat eq_refl
      exact ⟨rfl, rfl⟩
  · repeat eq_refl
    refine pw_eqL ?_
    repeat eq_refl
def isPoint (b : List (List Nat)) : Bool := decide ((b.filter fun s => decide (1 < s.length)) = [])
theorem int_nat_lt (n : Nat) : decide ((1 : Int) < (n : Int)) = decide (1 < n) := by
  by_cases q : 1 < n
  · rw [decide_eq_true q, decide_eq_true (by omega)]
  · rw [decide_eq_false q, decide_eq_false (by omega)]
theorem wr_is_point {φ : Fn} {b : List (List Nat)} : WR φ c__law_is_point [.dat (boxD b)] fun v _ => v = .dat (.bool (isPoint b)) := by
  refine wr_of rfl ?_
  show WSs φ [_] [some (.dat (boxD b)), none] _
  repeat eq_refl
  refine we_lcif b rowD (fun s => decide (1 < s.length)) rowD ?_
  repeat eq_refl
  refine ⟨rfl, fun s hs => ?_, ?_⟩
  · nofun
    repeat eq_refl
    rw [List.length_map, int_nat_lt]
    refine ⟨rfl, fun _ => rfl, fun _ => ?_⟩
    repeat eq_refl
    exact ⟨rfl, rfl⟩
  · repeat eq_refl
    refine pw_eqB2 ?_
    repeat eq_refl
end K10

set_option Elab.async false
set_option linter.all false
set_option autoImplicit false
set_option maxRecDepth 100000
set_option maxHeartbeats 4000000
namespace K10
open PySem LI
local macro_rules | `(tactic| eq_refl) => `(tactic| first
  | refine we_cst ?_ | refine we_prim ?_ | refine we_var rfl ?_ | refine we_varo rfl ?_ | refine wo_var rfl ?_ | refine wo_cons rfl ?_ | refine wo_nil ?_
  | refine rw_inr ?_ | refine rw_dat rfl ?_ | refine rw_own rfl ?_ | refine rw_nil ?_
  | refine pw_idxc rfl rfl ?_ | refine pw_add ?_ | refine pw_sub ?_ | refine pw_neg ?_ | refine pw_lt ?_ | refine pw_le ?_ | refine pw_gt ?_ | refine pw_ge ?_ | refine pw_int ?_ | refine pw_intb ?_ | refine pw_abs ?_ | refine pw_min2 ?_ | refine pw_isnone ?_ | refine pw_notnone ?_ | refine pw_len rfl ?_ | refine pw_tuple rfl ?_ | refine pw_list rfl ?_ | refine pw_isi rfl ?_
  | refine pw_mod (by first | decide | omega) ?_ | refine pw_fdiv (by first | decide | omega) (by first | decide | omega) ?_ | refine pw_mulr (by first | decide | omega) (by first | decide | omega) ?_ | refine pw_mull (by first | decide | omega) (by first | decide | omega) ?_
  | refine wa_plain ?_ | refine wa_nil ?_ | refine wa_false ?_ | refine wa_lend rfl ?_ | refine wa_dat rfl ?_ | refine wa_true rfl ?_ | refine bk_none ?_
  | refine sw_of rfl ?_ | refine nw_of (by omega) ?_ | refine xw_of rfl rfl rfl ?_ | refine ow_of rfl ?_ | refine dw_of rfl ?_ | refine lw_of (Nat.le_of_ble_eq_true rfl) ?_
  | refine wl_nil ?_ | refine wl_star ?_ | refine wl_cons rfl ?_ | refine wv_nil ?_ | refine wv_cons ?_
  | refine we_call ?_ | refine we_tup ?_ | refine we_lst ?_ | refine we_and ?_ | refine we_or ?_ | refine we_not ?_ | refine we_ite ?_ | refine we_sl2 ?_ | refine we_popAt rfl ?_
  | refine tw_bool ?_ | refine tw_list ?_ | refine tw_tuple ?_ | refine tw_int ?_ | refine tw_none ?_ | refine wc_none ?_ | refine wc_some ?_ | refine wt_of ?_
  | refine ts_one ?_ | refine ts_two ?_ | refine ts_three ?_ | refine wi_seq ?_ | refine wi_enum ?_ | refine wi_zip ?_ | refine wi_rng1 ?_
  | refine own_ok rfl ?_ | refine endq_ret ?_ | refine endq_nx ?_ | refine go_nx ?_ | refine go_ret ?_ | refine go_true ?_ | refine go_false ?_
  | refine wss_asg ?_ | refine wss_pasg ?_ | refine wss_uasg ?_ | refine wss_seti ?_ | refine wss_app rfl ?_ | refine wss_expr ?_ | refine wss_ite ?_ | refine wss_retd rfl ?_ | refine wss_reto rfl ?_ | refine wss_ret rfl ?_ | refine wss_retN ?_ | refine wss_nil ?_)
local macro_rules | `(tactic| nofun) => `(tactic| try dsimp only [List.set_cons_succ, List.set_cons_zero, setV_dat, setV_own, sv_dat, sv_own, wipeR, restR, giveB, upB, Option.map_some, Option.map_none, List.getElem?_cons_succ, List.getElem?_cons_zero, Option.getD_some])

/-! ### one of each -/
def comb {α β : Type} (f : α → List β) (l : List α) : List (List β) := l.foldl (fun found a => found.flatMap fun own => (f a).map fun x => own ++ [x]) [[]]
theorem comb_snoc {α β : Type} (f : α → List β) (l : List α) (a : α) : comb f (l ++ [a]) = (comb f l).flatMap fun own => (f a).map fun x => own ++ [x] := by
  unfold comb
  rw [List.foldl_append]; rfl
theorem comb_len {α β : Type} {f : α → List β} {k : Nat} (l : List α) (h : ∀ a ∈ l, (f a).length ≤ k) : (comb f l).length ≤ k ^ l.length := by
  have key : ∀ (l : List α) (acc : List (List β)), (∀ a ∈ l, (f a).length ≤ k) → (l.foldl (fun found a => found.flatMap fun own => (f a).map fun x => own ++ [x]) acc).length ≤ acc.length * k ^ l.length := by
    intro l
    induction l with
    | nil => intro acc _; simp
    | cons s r ih =>
      intro acc h
      have h1 := ih (acc.flatMap fun own => (f s).map fun n => own ++ [n]) fun t ht => h t (List.mem_cons_of_mem _ ht)
      have h2 : (acc.flatMap fun own => (f s).map fun n => own ++ [n]).length ≤ acc.length * k := flat_len fun a _ => by rw [List.length_map]; exact h s List.mem_cons_self
      rw [List.foldl_cons, List.length_cons, Nat.pow_succ, Nat.mul_comm (k ^ r.length), ← Nat.mul_assoc]
      exact Nat.le_trans h1 (Nat.mul_le_mul_right _ h2)
  have := key l [[]] h
  simpa [comb] using this
theorem mem_comb {α β : Type} (f : α → List β) (l : List α) (r : List β) : r ∈ comb f l ↔ All2 (fun x a => x ∈ f a) r l := by
  have fw : ∀ (l : List α) (acc : List (List β)) (r : List β), r ∈ l.foldl (fun found a => found.flatMap fun own => (f a).map fun x => own ++ [x]) acc ↔ ∃ a ∈ acc, ∃ t, r = a ++ t ∧ All2 (fun x a => x ∈ f a) t l := by
    intro l
    induction l with
    | nil =>
      intro acc r
      constructor
      · intro h; exact ⟨r, h, [], by simp, .nil⟩
      · rintro ⟨a, ha, t, rfl, ht⟩; cases ht; simpa using ha
    | cons s ss ih =>
      intro acc r
      rw [List.foldl_cons, ih]
      constructor
      · rintro ⟨a, ha, t, rfl, ht⟩
        obtain ⟨own, h1, h2⟩ := List.mem_flatMap.mp ha
        obtain ⟨n, h3, rfl⟩ := List.mem_map.mp h2
        exact ⟨own, h1, n :: t, by simp, .cons h3 ht⟩
      · rintro ⟨a, ha, t, rfl, ht⟩
        cases ht with
        | cons hx ht => exact ⟨a ++ [_], List.mem_flatMap.mpr ⟨a, ha, List.mem_map.mpr ⟨_, hx, rfl⟩⟩, _, by simp, ht⟩
  unfold comb
  rw [fw]
  constructor
  · rintro ⟨a, ha, t, rfl, ht⟩
    rw [List.mem_singleton.mp ha]; exact ht
  · intro h; exact ⟨[], by simp, r, by simp, h⟩
theorem comb_row {α β : Type} {f : α → List β} {l : List α} {r : List β} (h : r ∈ comb f l) : r.length = l.length := ((mem_comb f l r).mp h).length
/-! ### all sets -/
def subsOf (l : List Nat) : List (List Nat) := l.foldl (fun lots k => lots ++ lots.map fun s => s ++ [k]) [[]]
theorem subs_snoc (l : List Nat) (k : Nat) : subsOf (l ++ [k]) = subsOf l ++ (subsOf l).map fun s => s ++ [k] := by
  unfold subsOf
  rw [List.foldl_append]; rfl
theorem snoc_ind {α : Type} {P : List α → Prop} (h0 : P []) (h1 : ∀ l a, P l → P (l ++ [a])) (l : List α) : P l := by
  have : ∀ l : List α, P l.reverse := by
    intro l
    induction l with
    | nil => exact h0
    | cons a l ih => rw [List.reverse_cons]; exact h1 _ _ ih
  have := this l.reverse
  rwa [List.reverse_reverse] at this
theorem subs_len (l : List Nat) : (subsOf l).length = 2 ^ l.length := by
  refine snoc_ind (P := fun l => (subsOf l).length = 2 ^ l.length) rfl (fun l a ih => ?_) l
  rw [subs_snoc, List.length_append, List.length_map, ih, List.length_append, List.length_singleton, Nat.pow_succ]
  omega
theorem subs_mem_len (l : List Nat) : ∀ s ∈ subsOf l, s.length ≤ l.length := by
  refine snoc_ind (P := fun l => ∀ s ∈ subsOf l, s.length ≤ l.length) (by simp [subsOf]) (fun l a ih => ?_) l
  intro s hs
  rw [subs_snoc] at hs
  rw [List.length_append, List.length_singleton]
  rcases List.mem_append.mp hs with hs | hs
  · have := ih s hs; omega
  · obtain ⟨t, ht, rfl⟩ := List.mem_map.mp hs
    have := ih t ht
    simp; omega
/-- of an ascending list: the ascending ones inside it -/
theorem mem_subs {l : List Nat} : Asc l → ∀ s, s ∈ subsOf l ↔ Asc s ∧ ∀ x ∈ s, x ∈ l := by
  refine snoc_ind (P := fun l => Asc l → ∀ s, s ∈ subsOf l ↔ Asc s ∧ ∀ x ∈ s, x ∈ l) ?_ (fun l a ih => ?_) l
  · intro _ s
    constructor
    · intro h
      have : s = [] := by simpa [subsOf] using h
      subst this
      exact ⟨List.Pairwise.nil, fun x hx => absurd hx (by simp)⟩
    · rintro ⟨_, h⟩
      cases s with
      | nil => simp [subsOf]
      | cons x s => exact absurd (h x (by simp)) (by simp)
  · intro ha s
    obtain ⟨a1, _, a3⟩ := List.pairwise_append.mp ha
    have a4 : ∀ x ∈ l, x < a := fun x hx => a3 x hx a (by simp)
    rw [subs_snoc, List.mem_append, ih a1]
    constructor
    · rintro (⟨h1, h2⟩ | h)
      · exact ⟨h1, fun x hx => List.mem_append.mpr (.inl (h2 x hx))⟩
      · obtain ⟨t, ht, rfl⟩ := List.mem_map.mp h
        obtain ⟨h1, h2⟩ := (ih a1 t).mp ht
        refine ⟨List.pairwise_append.mpr ⟨h1, by simp, fun x hx y hy => ?_⟩, fun x hx => ?_⟩
        · rw [List.mem_singleton] at hy; subst hy; exact a4 x (h2 x hx)
        · rcases List.mem_append.mp hx with hx | hx
          · exact List.mem_append.mpr (.inl (h2 x hx))
          · exact List.mem_append.mpr (.inr hx)
    · rintro ⟨h1, h2⟩
      rcases List.eq_nil_or_concat s with rfl | ⟨t, y, rfl⟩
      · exact .inl ⟨List.Pairwise.nil, fun x hx => absurd hx (by simp)⟩
      · rw [List.concat_eq_append] at *
        obtain ⟨b1, _, b3⟩ := List.pairwise_append.mp h1
        have b4 : ∀ x ∈ t, x < y := fun x hx => b3 x hx y (by simp)
        have hy := h2 y (by simp)
        rcases List.mem_append.mp hy with hy2 | hy2
        · left
          refine ⟨h1, fun x hx => ?_⟩
          rcases List.mem_append.mp (h2 x hx) with hx2 | hx2
          · exact hx2
          · rw [List.mem_singleton] at hx2
            subst hx2
            rcases List.mem_append.mp hx with hx3 | hx3
            · have := b4 _ hx3; have := a4 y hy2; omega
            · rw [List.mem_singleton] at hx3; subst hx3; exact hy2
        · rw [List.mem_singleton] at hy2
          subst hy2
          right
          refine List.mem_map.mpr ⟨t, (ih a1 t).mpr ⟨b1, fun x hx => ?_⟩, rfl⟩
          rcases List.mem_append.mp (h2 x (List.mem_append.mpr (.inl hx))) with hx2 | hx2
          · exact hx2
          · rw [List.mem_singleton] at hx2; have := b4 x hx; omega
def lotsOf (s : List Nat) : List (List Nat) := (subsOf s).filter fun t => !decide (t = [])
def bagsOf (b : List (List Nat)) : List (List (List Nat)) := comb lotsOf b
theorem lots_len (s : List Nat) (h : s.length ≤ 4) : (lotsOf s).length ≤ 16 := by
  refine Nat.le_trans (List.length_filter_le _ _) ?_
  rw [subs_len]
  exact Nat.le_trans (Nat.pow_le_pow_right (by omega) h) (by decide)
theorem mem_bags {h : List Fd} {b : List (List Nat)} (i : IsBox h b) (c : List (List Nat)) : c ∈ bagsOf b ↔ IsBox h c ∧ Sub h c b := by
  unfold bagsOf
  rw [mem_comb]
  have key : ∀ (b c : List (List Nat)), (∀ p < b.length, Asc (partAt b p)) → (All2 (fun x a => x ∈ lotsOf a) c b ↔ c.length = b.length ∧ ∀ p < b.length, Asc (partAt c p) ∧ partAt c p ≠ [] ∧ ∀ x ∈ partAt c p, x ∈ partAt b p) := by
    intro b
    induction b with
    | nil =>
      intro c _
      constructor
      · intro h; cases h; exact ⟨rfl, fun p hp => absurd hp (by simp)⟩
      · rintro ⟨h, _⟩
        rw [List.eq_nil_of_length_eq_zero h]; exact .nil
    | cons s b ih =>
      intro c ha
      have a0 : Asc s := ha 0 (by simp)
      have as : ∀ p < b.length, Asc (partAt b p) := fun p hp => ha (p + 1) (by simpa using hp)
      have hl : ∀ t, t ∈ lotsOf s ↔ Asc t ∧ t ≠ [] ∧ ∀ x ∈ t, x ∈ s := fun t => by
        unfold lotsOf
        rw [List.mem_filter, mem_subs a0]
        simp only [Bool.not_eq_true', decide_eq_false_iff_not]
        exact ⟨fun ⟨⟨x, y⟩, z⟩ => ⟨x, z, y⟩, fun ⟨x, z, y⟩ => ⟨⟨x, y⟩, z⟩⟩
      cases c with
      | nil =>
        constructor
        · intro h; cases h
        · rintro ⟨h, _⟩; simp at h
      | cons t c =>
        constructor
        · intro h
          cases h with
          | cons h1 h2 =>
            obtain ⟨k1, k2⟩ := (ih c as).mp h2
            refine ⟨by simp [k1], fun p hp => ?_⟩
            cases p with
            | zero => exact (hl t).mp h1
            | succ p => exact k2 p (by simpa using hp)
        · rintro ⟨h1, h2⟩
          exact .cons ((hl t).mpr (h2 0 (by simp))) ((ih c as).mpr ⟨by simpa using h1, fun p hp => h2 (p + 1) (by simpa using hp)⟩)
  rw [key b c (fun p hp => i.asc p (by rw [← i.len]; exact hp))]
  rw [i.len]
  constructor
  · rintro ⟨h1, h2⟩
    exact ⟨⟨h1, fun p hp => (h2 p hp).1, fun p hp => (h2 p hp).2.1, fun p hp x hx => i.at_ p hp x ((h2 p hp).2.2 x hx)⟩, fun p hp x hx => (h2 p hp).2.2 x hx⟩
  · rintro ⟨h1, h2⟩
    exact ⟨h1.len, fun p hp => ⟨h1.asc p hp, h1.ne p hp, fun x hx => h2 p hp x hx⟩⟩
theorem shaped_row (s : List Nat) : SeqAt.shaped (rowD s) = true := by
  obtain ⟨h1, h2⟩ := lay_row s
  unfold SeqAt.shaped
  rw [Bool.and_eq_true]
  refine ⟨by simp [PyData.canLay0, h1], decide_eq_true ?_⟩
  simp only [PyData.depth]
  omega
theorem wr_bags {φ : Fn} {b : List (List Nat)} (hl : b.length ≤ 4) (hs : ∀ s ∈ b, s.length ≤ 4) : WR φ c__law_bags [.dat (boxD b)] fun v _ => v.d = .list ((bagsOf b).map boxD) := by
  have hpow : ∀ don : List (List Nat), (∀ p ∈ don, p ∈ b) → don.length ≤ 4 → (bagsOf don).length ≤ 65536 := fun don hd hl => by
    refine Nat.le_trans (comb_len (k := 16) don fun s hs' => lots_len s (hs s (hd s hs'))) ?_
    exact Nat.le_trans (Nat.pow_le_pow_right (by omega) hl) (by decide)
  refine wr_of rfl ?_
  show WSs φ [_, _, _] [some (.dat (boxD b)), none, none, none, none, none, none, none] _
  repeat eq_refl
  nofun
  refine wss_for b rowD (fun don ρ => ∃ (v1 : SV) (x2 x3 x4 x5 x6 : Option SV), ρ = [some (.dat (boxD b)), some v1, x2, x3, x4, x5, x6, none] ∧ v1.d = .list ((bagsOf don).map boxD)) ?_
  repeat eq_refl
  refine ⟨rfl, ⟨_, _, _, _, _, _, rfl, rfl⟩, ?_, ?_⟩
  · rintro don s rest _ e ⟨v1, x2, x3, x4, x5, x6, rfl, h1⟩
    have hm : ∀ q ∈ don, q ∈ b := fun q hq => by rw [e]; exact List.mem_append.mpr (.inl hq)
    have hp : s ∈ b := by rw [e]; simp
    have hdl : don.length + 1 ≤ b.length := by rw [e]; simp
    have hs4 := hs s hp
    repeat eq_refl
    nofun
    refine wss_for s ic (fun dn ρ => ∃ (y4 : Option SV), ρ = [some (.dat (boxD b)), some v1, some (.dat (rowD s)), some (.own none (.list ((subsOf dn).map rowD))), y4, x5, x6, none]) ?_
    repeat eq_refl
    refine ⟨rfl, ⟨_, rfl⟩, ?_, ?_⟩
    · rintro dn k rst _ e2 ⟨y4, rfl⟩
      have hdn : dn.length + 1 ≤ 4 := by
        have : s.length = dn.length + (rst.length + 1) := by rw [e2]; simp
        omega
      have hsl : (subsOf dn).length ≤ 16 := by
        rw [subs_len]
        exact Nat.le_trans (Nat.pow_le_pow_right (by omega) (show dn.length ≤ 4 by omega)) (by decide)
      repeat eq_refl
      nofun
      refine we_lc (subsOf dn) rowD (fun t => rowD (t ++ [k])) ?_
      repeat eq_refl
      nofun
      refine ⟨rfl, fun t ht => ?_, ?_⟩
      · have := subs_mem_len dn t ht
        nofun
        repeat eq_refl
        refine pw_addT (by simp; omega) ?_
        exact ⟨by simp, rfl⟩
      · repeat eq_refl
        refine pw_addL (by rw [List.length_map, List.length_map]; omega) ?_
        repeat eq_refl
        nofun
        refine ⟨rfl, some (.dat (ic k)), ?_⟩
        rw [subs_snoc, List.map_append, List.map_map]
        rfl
    · rintro _ ⟨y4, rfl⟩
      repeat eq_refl
      nofun
      refine wss_for (bagsOf don) boxD (fun dn ρ => ∃ (v3 : SV) (y6 : Option SV), ρ = [some (.dat (boxD b)), some (.dat (.list ((bagsOf don).map boxD))), some (.dat (rowD s)), some v3, y4, some (.own none (.list ((dn.flatMap fun own => (lotsOf s).map fun t => own ++ [t]).map boxD))), y6, none] ∧ v3.d = .list ((subsOf s).map rowD)) ?_
      repeat eq_refl
      refine we_varx rfl ?_
      rw [h1]
      repeat eq_refl
      refine ⟨rfl, ⟨_, _, rfl, rfl⟩, ?_, ?_⟩
      · rintro dn own rst _ e2 ⟨v3, y6, rfl, h3⟩
        have ho : own.length ≤ 4 := by
          have : own ∈ bagsOf don := by rw [e2]; simp
          rw [comb_row this]
          omega
        have hdz : (dn.flatMap fun own => (lotsOf s).map fun t => own ++ [t]).length + 16 ≤ 1000000 := by
          have : (don ++ [s]).length ≤ 4 := by simp; omega
          have h4 := hpow (don ++ [s]) (fun q hq => by
            rcases List.mem_append.mp hq with hq | hq
            · exact hm q hq
            · rw [List.mem_singleton] at hq; rw [hq]; exact hp) this
          rw [bagsOf, comb_snoc] at h4
          rw [bagsOf] at e2
          rw [e2, List.flatMap_append, List.length_append] at h4
          omega
        repeat eq_refl
        nofun
        refine we_lcif (subsOf s) rowD (fun t => !decide (t = [])) (fun t => boxD (own ++ [t])) ?_
        repeat eq_refl
        refine we_varx rfl ?_
        rw [h3]
        repeat eq_refl
        nofun
        refine ⟨rfl, fun t ht => ?_, ?_⟩
        · nofun
          repeat eq_refl
          refine pw_ne (b := rowD []) (shaped_row t) (shaped_row []) (eqv_row t []) ?_
          repeat eq_refl
          refine ⟨rfl, fun _ => rfl, fun _ => ?_⟩
          repeat eq_refl
          refine pw_addT (by simp; omega) ?_
          exact ⟨by simp, rfl⟩
        · repeat eq_refl
          refine pw_addL (by rw [List.length_map, List.length_map]; have := lots_len s hs4; unfold lotsOf at this; omega) ?_
          repeat eq_refl
          nofun
          refine ⟨rfl, .dat (.list ((subsOf s).map rowD)), some (.dat (boxD own)), ?_, rfl⟩
          rw [flat_snoc, List.map_append, List.map_map]
          rfl
      · rintro _ ⟨v3, y6, rfl, h3⟩
        repeat eq_refl
        nofun
        refine ⟨rfl, _, _, _, _, _, _, rfl, ?_⟩
        rw [bagsOf, bagsOf, comb_snoc]
        rfl
  · rintro _ ⟨v1, x2, x3, x4, x5, x6, rfl, h1⟩
    refine wss_retx rfl fun w r hw => ?_
    repeat eq_refl
    rw [hw, h1]
end K10

set_option Elab.async false
set_option linter.all false
set_option autoImplicit false
set_option maxRecDepth 100000
set_option maxHeartbeats 4000000
namespace K10
open PySem LI
local macro_rules | `(tactic| eq_refl) => `(tactic| first
  | refine we_cst ?_ | refine we_prim ?_ | refine we_var rfl ?_ | refine we_varo rfl ?_ | refine wo_var rfl ?_ | refine wo_cons rfl ?_ | refine wo_nil ?_
  | refine rw_inr ?_ | refine rw_dat rfl ?_ | refine rw_own rfl ?_ | refine rw_nil ?_
  | refine pw_idxc rfl rfl ?_ | refine pw_add ?_ | refine pw_sub ?_ | refine pw_neg ?_ | refine pw_lt ?_ | refine pw_le ?_ | refine pw_gt ?_ | refine pw_ge ?_ | refine pw_int ?_ | refine pw_intb ?_ | refine pw_abs ?_ | refine pw_min2 ?_ | refine pw_isnone ?_ | refine pw_notnone ?_ | refine pw_len rfl ?_ | refine pw_tuple rfl ?_ | refine pw_list rfl ?_ | refine pw_isi rfl ?_
  | refine pw_mod (by first | decide | omega) ?_ | refine pw_fdiv (by first | decide | omega) (by first | decide | omega) ?_ | refine pw_mulr (by first | decide | omega) (by first | decide | omega) ?_ | refine pw_mull (by first | decide | omega) (by first | decide | omega) ?_
  | refine wa_plain ?_ | refine wa_nil ?_ | refine wa_false ?_ | refine wa_lend rfl ?_ | refine wa_dat rfl ?_ | refine wa_true rfl ?_ | refine bk_none ?_
  | refine sw_of rfl ?_ | refine nw_of (by omega) ?_ | refine xw_of rfl rfl rfl ?_ | refine ow_of rfl ?_ | refine dw_of rfl ?_ | refine lw_of (Nat.le_of_ble_eq_true rfl) ?_
  | refine wl_nil ?_ | refine wl_star ?_ | refine wl_cons rfl ?_ | refine wv_nil ?_ | refine wv_cons ?_
  | refine we_call ?_ | refine we_tup ?_ | refine we_lst ?_ | refine we_and ?_ | refine we_or ?_ | refine we_not ?_ | refine we_ite ?_ | refine we_sl2 ?_ | refine we_popAt rfl ?_
  | refine tw_bool ?_ | refine tw_list ?_ | refine tw_tuple ?_ | refine tw_int ?_ | refine tw_none ?_ | refine wc_none ?_ | refine wc_some ?_ | refine wt_of ?_
  | refine ts_one ?_ | refine ts_two ?_ | refine ts_three ?_ | refine wi_seq ?_ | refine wi_enum ?_ | refine wi_zip ?_ | refine wi_rng1 ?_
  | refine own_ok rfl ?_ | refine endq_ret ?_ | refine endq_nx ?_ | refine go_nx ?_ | refine go_ret ?_ | refine go_true ?_ | refine go_false ?_
  | refine wss_asg ?_ | refine wss_pasg ?_ | refine wss_uasg ?_ | refine wss_seti ?_ | refine wss_app rfl ?_ | refine wss_expr ?_ | refine wss_ite ?_ | refine wss_retd rfl ?_ | refine wss_reto rfl ?_ | refine wss_ret rfl ?_ | refine wss_retN ?_ | refine wss_nil ?_)
local macro_rules | `(tactic| nofun) => `(tactic| try dsimp only [List.set_cons_succ, List.set_cons_zero, setV_dat, setV_own, sv_dat, sv_own, wipeR, restR, giveB, upB, Option.map_some, Option.map_none, List.getElem?_cons_succ, List.getElem?_cons_zero, Option.getD_some])

/-! ### rows and their numbers -/
theorem flat_get {α β : Type} {n : Nat} (hn : 0 < n) (f : α → Nat → β) : ∀ (l : List α) (i : Nat) (x : β), (l.flatMap fun a => (List.range n).map (f a))[i]? = some x → ∃ a, l[i / n]? = some a ∧ x = f a (i % n)
  | [], i, x, h => by simp at h
  | a :: l, i, x, h => by
    rw [List.flatMap_cons] at h
    by_cases hi : i < n
    · rw [List.getElem?_append_left (by simpa using hi), List.getElem?_map, List.getElem?_range hi] at h
      refine ⟨a, by rw [Nat.div_eq_of_lt hi]; rfl, ?_⟩
      rw [Nat.mod_eq_of_lt hi]
      exact (Option.some.inj h).symm
    · rw [List.getElem?_append_right (by simp; omega), List.length_map, List.length_range] at h
      obtain ⟨b, h1, h2⟩ := flat_get hn f l (i - n) x h
      have e1 : i / n = (i - n) / n + 1 := by
        rw [← Nat.add_div_right _ hn, Nat.sub_add_cancel (by omega)]
      have e2 : i % n = (i - n) % n := by
        rw [← Nat.add_mod_right (i - n) n, Nat.sub_add_cancel (by omega)]
      refine ⟨b, by rw [e1]; simpa using h1, by rw [e2]; exact h2⟩
theorem zip_snoc {α β : Type} {a : List α} {b : List β} (h : a.length = b.length) (x : α) (y : β) : (a ++ [x]).zip (b ++ [y]) = a.zip b ++ [(x, y)] := by
  rw [List.zip_append h]; rfl
theorem row_at (sz : List Nat) : (∀ n ∈ sz, 0 < n) → ∀ (i : Nat) (r : List Nat), (rowsAmong (sz.map List.range))[i]? = some r → numOf (r.zip sz) = i := by
  refine snoc_ind (P := fun sz => (∀ n ∈ sz, 0 < n) → ∀ (i : Nat) (r : List Nat), (rowsAmong (sz.map List.range))[i]? = some r → numOf (r.zip sz) = i) ?_ (fun sz n ih => ?_) sz
  · intro _ i r h
    cases i with
    | zero => simp [rowsAmong] at h; subst h; rfl
    | succ i => simp [rowsAmong] at h
  · intro hp i r h
    have hn : 0 < n := hp n (by simp)
    rw [List.map_append, List.map_cons, List.map_nil, rowsAmong_snoc] at h
    obtain ⟨a, h1, rfl⟩ := flat_get hn (fun own j => own ++ [j]) _ i r h
    have e := ih (fun m hm => hp m (by simp [hm])) _ a h1
    have hl : a.length = sz.length := by
      have := rowsAmong_row _ a (List.mem_of_getElem? h1)
      simpa using this
    rw [zip_snoc hl, numOf_snoc, e]
    have := Nat.div_add_mod i n
    rw [Nat.mul_comm] at this
    exact this
theorem rows_nodup {sz : List Nat} (h : ∀ n ∈ sz, 0 < n) : (rowsAmong (sz.map List.range)).Nodup := by
  rw [List.Nodup, List.pairwise_iff_getElem]
  intro i j hi hj hij e
  have h1 := row_at sz h i _ (List.getElem?_eq_getElem hi)
  have h2 := row_at sz h j _ (List.getElem?_eq_getElem hj)
  rw [e, h2] at h1
  omega
theorem range_getD {α : Type} (l : List α) (d : α) : (List.range l.length).map (fun k => l.getD k d) = l := by
  refine List.ext_getElem (by simp) fun i k1 k2 => ?_
  simp [List.getD_eq_getElem?_getD, k2]
/-! ### dicts by rows -/
def rowKey (r : List Nat) : List Ky := r.map fun (x : Nat) => .inl (x : Int)
theorem keys_row : ∀ r : List Nat, keysD (r.map ic) = some (rowKey r)
  | [] => rfl
  | x :: r => by
    simp only [List.map_cons, keysD, keys_row r, Option.map_some, rowKey]
theorem keyD_row (r : List Nat) : (rowKey r).map keyD = r.map ic := by
  unfold rowKey
  rw [List.map_map]; rfl
theorem rowKey_inj {a b : List Nat} (h : rowKey a = rowKey b) : a = b := by
  have : (rowKey a).map keyD = (rowKey b).map keyD := by rw [h]
  rw [keyD_row, keyD_row] at this
  have e := eqvAll_row a b
  rw [this, eqvAll_row b b] at e
  simp at e
  exact e
theorem pairs_row {α : Type} (f : α → List Nat) (g : α → PyData) : ∀ l : List α, pairsD (l.map fun a => .tuple [rowD (f a), g a]) = some (l.map fun a => (rowKey (f a), g a))
  | [] => rfl
  | a :: l => by
    simp only [List.map_cons, pairsD, keys_row, Option.bind_some, pairs_row f g l, Option.map_some]
theorem merge_nodup : ∀ (kvs acc : List (List Ky × PyData)), ((acc ++ kvs).map (·.1)).Nodup → mergeG acc kvs = acc ++ kvs
  | [], acc, _ => by simp [mergeG]
  | q :: kvs, acc, h => by
    have hn : (acc.any fun kv => decide (kv.1 = q.1)) = false := by
      rw [List.any_eq_false]
      intro kv hkv
      rw [decide_eq_true_eq]
      intro e
      rw [List.map_append, List.nodup_append] at h
      exact h.2.2 kv.1 (List.mem_map.mpr ⟨kv, hkv, rfl⟩) q.1 (by simp) e
    have : mergeG acc (q :: kvs) = mergeG (acc ++ [q]) kvs := by
      unfold mergeG
      rw [List.foldl_cons]
      congr 1
      unfold putG
      rw [hn]
      simp
    rw [this, merge_nodup kvs (acc ++ [q]) (by simpa using h)]
    simp
theorem dget_row {α : Type} (f : α → List Nat) (g : α → PyData) : ∀ (l : List α), (l.map f).Nodup → ∀ a ∈ l, dgetD (toDD (l.map fun a => (rowKey (f a), g a))) (rowKey (f a)) = some (g a)
  | [], _, a, h => absurd h (by simp)
  | b :: l, hn, a, h => by
    rw [List.map_cons, List.nodup_cons] at hn
    have kk : keyOfD (.tuple ((rowKey (f b)).map keyD)) = some (rowKey (f b)) := by
      rw [keyD_row]; exact keys_row (f b)
    by_cases e : f b = f a
    · have hab : a = b := by
        rcases List.mem_cons.mp h with h | h
        · exact h
        · exact absurd (e ▸ List.mem_map.mpr ⟨a, h, rfl⟩) hn.1
      subst hab
      unfold dgetD toDD
      rw [List.map_cons, List.map_cons, List.find?_cons_of_pos (by rw [decide_eq_true_eq]; exact kk)]
      rfl
    · have hal : a ∈ l := by
        rcases List.mem_cons.mp h with h | h
        · exact absurd (by rw [h]) e
        · exact h
      have ih := dget_row f g l hn.2 a hal
      unfold dgetD toDD at ih ⊢
      rw [List.map_cons, List.map_cons, List.find?_cons_of_neg (by rw [decide_eq_true_eq, kk]; intro z; exact e (rowKey_inj (Option.some.inj z)))]
      exact ih
theorem pw_dict {α : Type} {l : List α} {f : α → List Nat} {g : α → PyData} {Q : SV → Prop} (hn : (l.map f).Nodup) (q : Q (.dat (.dict (toDD (l.map fun a => (rowKey (f a), g a)))))) : PW .dict [.list (l.map fun a => .tuple [rowD (f a), g a])] Q := by
  refine pw_of (v := .dat (.dict (toDD (l.map fun a => (rowKey (f a), g a))))) ?_ q
  simp only [prim, p1, pDict, pairs_row, Option.map_some]
  rw [merge_nodup _ [] (by
    rw [List.nil_append, List.map_map]
    have : ((l.map f).map rowKey).Nodup := List.Pairwise.map rowKey (fun a b hab e => hab (rowKey_inj e)) hn
    rw [List.map_map] at this
    exact this)]
  rfl
theorem idx_dict {α : Type} {l : List α} {f : α → List Nat} {g : α → PyData} (hn : (l.map f).Nodup) {a : α} (h : a ∈ l) : prim .idx [.dict (toDD (l.map fun a => (rowKey (f a), g a))), rowD (f a)] = some (.dat (g a)) := by
  show (keysD ((f a).map ic)).bind (fun k => (dgetD (toDD (l.map fun a => (rowKey (f a), g a))) k).map SV.dat) = _
  rw [keys_row, Option.bind_some, dget_row f g l hn a h]
  rfl
/-- tables by rows -/
def MapsR (md : PyData) (h : List Fd) : Prop := ∃ ds, md = .list ds ∧ ds.length = h.length ∧ ∀ j f, h[j]? = some f → ∃ dd, ds[j]? = some dd ∧ ∀ r ∈ rowsAmong ((f.eyes.map (szAt h)).map List.range), prim .idx [dd, rowD r] = some (.dat (ic (tellAt h j r)))
def SpRowsL (φ : Fn) : Prop := ∀ (sd : PyData) (sz : List Nat), Row sd sz → sz.length ≤ 4 → (∀ s ∈ sz, s ≤ 16) → WF φ "_law_rows" [.dat sd] fun v _ => v.d = .list ((rowsAmong (sz.map List.range)).map rowD)
def SpSizesL (φ : Fn) : Prop := ∀ (hd pd : PyData) (h : List Fd) (ps : List Nat), HouseR hd h → Row pd ps → (∀ p ∈ ps, p < h.length) → WF φ "_law_sizes" [.dat hd, .dat pd] fun v _ => v.d = .list ((ps.map (szAt h)).map ic)
theorem rows_len_prod (sz : List Nat) : (rowsAmong (sz.map List.range)).length = prodOf sz := by
  refine snoc_ind (P := fun sz => (rowsAmong (sz.map List.range)).length = prodOf sz) rfl (fun sz n ih => ?_) sz
  rw [List.map_append, List.map_cons, List.map_nil, rowsAmong_snoc, prod_snoc, ← ih]
  generalize rowsAmong (sz.map List.range) = l
  induction l with
  | nil => simp
  | cons a l ih2 => rw [List.flatMap_cons, List.length_append, ih2, List.length_map, List.length_range, List.length_cons, Nat.add_mul]; omega
theorem wr_maps {φ : Fn} (S1 : SpRowsL φ) (S2 : SpSizesL φ) {hd : PyData} {h : List Fd} (w : Wf h) (hh : HouseR hd h) : WR φ c__law_maps [.dat hd] fun v _ => MapsR v.d h := by
  have hh0 := hh
  obtain ⟨ds, e1, hA⟩ := hh
  obtain ⟨z, hz1, hz2, hz⟩ := hA.zip
  have hzl : z.length = h.length := by rw [hz2]; simp
  refine wr_of rfl ?_
  show WSs φ [_, _, _] [some (.dat hd), none, none, none, none, none] _
  repeat eq_refl
  nofun
  refine wss_for z (·.1) (fun don ρ => ∃ (ms : List PyData) (x2 x3 : Option SV), ρ = [some (.dat hd), some (.own none (.list ms)), x2, x3, none, none] ∧ ms.length = don.length ∧ ∀ j, j < don.length → ∀ f, h[j]? = some f → ∃ dd, ms[j]? = some dd ∧ ∀ r ∈ rowsAmong ((f.eyes.map (szAt h)).map List.range), prim .idx [dd, rowD r] = some (.dat (ic (tellAt h j r)))) ?_
  repeat eq_refl
  refine sw_of e1 ?_
  refine ⟨hz1, ⟨[], _, _, rfl, rfl, fun j hj => absurd hj (by simp)⟩, ?_, ?_⟩
  · rintro don p rest _ e ⟨ms, x2, x3, rfl, h1, h2⟩
    have hp : p ∈ z := by rw [e]; simp
    have hpm : p.2 ∈ h := by rw [hz2]; exact List.mem_map.mpr ⟨p, hp, rfl⟩
    have hat : h[don.length]? = some p.2 := by
      rw [hz2, List.getElem?_map, e]; simp
    obtain ⟨v, ee, t, i0, i1, i2, i3, r1, r2⟩ := (hz p hp).parts
    have heyes := (w.eyes p.2 hpm)
    have hsz : ∀ n ∈ p.2.eyes.map (szAt h), 0 < n ∧ n ≤ 16 := fun n hn => by
      obtain ⟨q, hq, rfl⟩ := List.mem_map.mp hn
      exact w.sz (heyes.2 q hq)
    have hpos : ∀ n ∈ p.2.eyes.map (szAt h), 0 < n := fun n hn => (hsz n hn).1
    have hnd := rows_nodup hpos
    have hlen : (rowsAmong ((p.2.eyes.map (szAt h)).map List.range)).length = p.2.tab.length := by
      rw [rows_len_prod, (w.tab p.2 hpm).1]; rfl
    repeat eq_refl
    refine pw_of i1 ?_
    repeat eq_refl
    refine wf_mono (S2 hd ee h p.2.eyes hh0 r1 heyes.2) ?_
    rintro v1 o1 hv1
    nofun
    rw [hv1]
    repeat eq_refl
    refine wf_mono (S1 _ (p.2.eyes.map (szAt h)) rfl (by rw [List.length_map]; exact heyes.1) fun s hs => (hsz s hs).2) ?_
    rintro v2 o2 hv2
    repeat eq_refl
    nofun
    refine we_lc (List.range (rowsAmong ((p.2.eyes.map (szAt h)).map List.range)).length) (fun k => .tuple [ic k, rowD ((rowsAmong ((p.2.eyes.map (szAt h)).map List.range)).getD k [])]) (fun k => .tuple [rowD ((rowsAmong ((p.2.eyes.map (szAt h)).map List.range)).getD k []), ic (p.2.tab.getD k 0)]) ?_
    repeat eq_refl
    refine we_varx rfl ?_
    rw [setV_d, hv2]
    repeat eq_refl
    nofun
    refine ⟨enumD_gen rowD [] _, fun k hk => ?_, ?_⟩
    · have hk' := List.mem_range.mp hk
      nofun
      repeat eq_refl
      refine pw_of i2 ?_
      repeat eq_refl
      refine pw_of (r2.idx (i := k) (x := p.2.tab.getD k 0) (by rw [List.getElem?_eq_getElem (by omega), List.getD_eq_getElem?_getD, List.getElem?_eq_getElem (by omega)]; rfl)) ?_
      repeat eq_refl
      exact ⟨rfl, rfl⟩
    · have hmm : (List.range (rowsAmong ((p.2.eyes.map (szAt h)).map List.range)).length).map (fun k => (rowsAmong ((p.2.eyes.map (szAt h)).map List.range)).getD k []) = rowsAmong ((p.2.eyes.map (szAt h)).map List.range) := range_getD _ _
      repeat eq_refl
      refine pw_dict (f := fun k => (rowsAmong ((p.2.eyes.map (szAt h)).map List.range)).getD k []) (g := fun k => ic (p.2.tab.getD k 0)) (by rw [hmm]; exact hnd) ?_
      repeat eq_refl
      refine lw_of (by rw [h1]; have := w.few; have : don.length < z.length := by rw [e]; simp
                       omega) ?_
      repeat eq_refl
      nofun
      refine ⟨rfl, _, _, _, rfl, by simp [h1], fun j hj f hf => ?_⟩
      by_cases hjd : j < don.length
      · obtain ⟨dd, k1, k2⟩ := h2 j hjd f hf
        exact ⟨dd, by rw [List.getElem?_append_left (by omega)]; exact k1, k2⟩
      · have hje : j = don.length := by simp at hj; omega
        subst hje
        rw [hat] at hf
        cases hf
        refine ⟨_, by rw [List.getElem?_append_right (by omega), h1, Nat.sub_self]; rfl, fun r hr => ?_⟩
        obtain ⟨k, hk, hkr⟩ := List.mem_iff_getElem.mp hr
        have e5 : (rowsAmong ((p.2.eyes.map (szAt h)).map List.range)).getD k [] = r := by rw [List.getD_eq_getElem?_getD, List.getElem?_eq_getElem hk, hkr]; rfl
        have := idx_dict (l := List.range (rowsAmong ((p.2.eyes.map (szAt h)).map List.range)).length) (f := fun k => (rowsAmong ((p.2.eyes.map (szAt h)).map List.range)).getD k []) (g := fun k => ic (p.2.tab.getD k 0)) (by rw [hmm]; exact hnd) (List.mem_range.mpr hk)
        simp only [e5] at this
        rw [this]
        have nk := row_at _ hpos k r (by rw [List.getElem?_eq_getElem hk, hkr])
        have et : tabAt h don.length = p.2.tab := by simp [tabAt, hat]
        have ey : eyesAt h don.length = p.2.eyes := by simp [eyesAt, hat]
        unfold tellAt
        rw [et, ey, nk]
  · rintro _ ⟨ms, x2, x3, rfl, h1, h2⟩
    repeat eq_refl
    refine ⟨ms, rfl, by omega, fun j f hf => h2 j ?_ f hf⟩
    have := (List.getElem?_eq_some_iff.mp hf).1
    omega
end K10

set_option Elab.async false
set_option linter.all false
set_option autoImplicit false
set_option maxRecDepth 100000
set_option maxHeartbeats 4000000
namespace K10
open PySem LI
local macro_rules | `(tactic| eq_refl) => `(tactic| first
  | refine we_cst ?_ | refine we_prim ?_ | refine we_var rfl ?_ | refine we_varo rfl ?_ | refine wo_var rfl ?_ | refine wo_cons rfl ?_ | refine wo_nil ?_
  | refine rw_inr ?_ | refine rw_dat rfl ?_ | refine rw_own rfl ?_ | refine rw_nil ?_
  | refine pw_idxc rfl rfl ?_ | refine pw_add ?_ | refine pw_sub ?_ | refine pw_neg ?_ | refine pw_lt ?_ | refine pw_le ?_ | refine pw_gt ?_ | refine pw_ge ?_ | refine pw_int ?_ | refine pw_intb ?_ | refine pw_abs ?_ | refine pw_min2 ?_ | refine pw_isnone ?_ | refine pw_notnone ?_ | refine pw_len rfl ?_ | refine pw_tuple rfl ?_ | refine pw_list rfl ?_ | refine pw_isi rfl ?_
  | refine pw_mod (by first | decide | omega) ?_ | refine pw_fdiv (by first | decide | omega) (by first | decide | omega) ?_ | refine pw_mulr (by first | decide | omega) (by first | decide | omega) ?_ | refine pw_mull (by first | decide | omega) (by first | decide | omega) ?_
  | refine wa_plain ?_ | refine wa_nil ?_ | refine wa_false ?_ | refine wa_lend rfl ?_ | refine wa_dat rfl ?_ | refine wa_true rfl ?_ | refine bk_none ?_
  | refine sw_of rfl ?_ | refine nw_of (by omega) ?_ | refine xw_of rfl rfl rfl ?_ | refine ow_of rfl ?_ | refine dw_of rfl ?_ | refine lw_of (Nat.le_of_ble_eq_true rfl) ?_
  | refine wl_nil ?_ | refine wl_star ?_ | refine wl_cons rfl ?_ | refine wv_nil ?_ | refine wv_cons ?_
  | refine we_call ?_ | refine we_tup ?_ | refine we_lst ?_ | refine we_and ?_ | refine we_or ?_ | refine we_not ?_ | refine we_ite ?_ | refine we_sl2 ?_ | refine we_popAt rfl ?_
  | refine tw_bool ?_ | refine tw_list ?_ | refine tw_tuple ?_ | refine tw_int ?_ | refine tw_none ?_ | refine wc_none ?_ | refine wc_some ?_ | refine wt_of ?_
  | refine ts_one ?_ | refine ts_two ?_ | refine ts_three ?_ | refine wi_seq ?_ | refine wi_enum ?_ | refine wi_zip ?_ | refine wi_rng1 ?_
  | refine own_ok rfl ?_ | refine endq_ret ?_ | refine endq_nx ?_ | refine go_nx ?_ | refine go_ret ?_ | refine go_true ?_ | refine go_false ?_
  | refine wss_asg ?_ | refine wss_pasg ?_ | refine wss_uasg ?_ | refine wss_seti ?_ | refine wss_app rfl ?_ | refine wss_expr ?_ | refine wss_ite ?_ | refine wss_retd rfl ?_ | refine wss_reto rfl ?_ | refine wss_ret rfl ?_ | refine wss_retN ?_ | refine wss_nil ?_)
local macro_rules | `(tactic| nofun) => `(tactic| try dsimp only [List.set_cons_succ, List.set_cons_zero, setV_dat, setV_own, sv_dat, sv_own, wipeR, restR, giveB, upB, Option.map_some, Option.map_none, List.getElem?_cons_succ, List.getElem?_cons_zero, Option.getD_some])

def SpSpots (φ : Fn) : Prop := ∀ (sd : PyData) (sets : List (List Nat)), BoxR sd sets → sets.length ≤ 4 → (∀ s ∈ sets, s.length ≤ 16) → WF φ "_law_spots" [.dat sd] fun v _ => v.d = .list ((rowsAmong sets).map rowD)
theorem all2_map {α β γ : Type} {R : β → γ → Prop} (f : α → β) (g : α → γ) : ∀ (l : List α), (∀ a ∈ l, R (f a) (g a)) → All2 R (l.map f) (l.map g)
  | [], _ => .nil
  | a :: l, h => .cons (h a (by simp)) (all2_map f g l fun b hb => h b (by simp [hb]))
theorem rows_in_all {h : List Fd} {b : List (List Nat)} (i : InBox h b) : ∀ (es r : List Nat), All2 (fun x s => x ∈ s) r (es.map (partAt b)) → All2 (fun x s => x ∈ s) r ((es.map (szAt h)).map List.range)
  | [], r, hr => by cases hr; exact .nil
  | e :: es, r, hr => by
    cases hr with
    | cons hx ht => exact .cons (List.mem_range.mpr (i.at_ e _ hx)) (rows_in_all i es _ ht)
theorem wr_say {φ : Fn} (S : SpSpots φ) {hd md : PyData} {h : List Fd} {b : List (List Nat)} (w : Wf h) (h3 : ∀ f ∈ h, f.eyes.length ≤ 2) (hh : HouseR hd h) (hm : MapsR md h) (ib : IsBox h b) : WR φ c__law_say [.dat hd, .dat md, .dat (boxD b)] fun v _ => v = .dat (boxD (toldBox h b)) := by
  have i := ib.inb w
  obtain ⟨ds, e1, hA⟩ := hh
  obtain ⟨ms, rfl, m2, m3⟩ := hm
  obtain ⟨z, hz1, hz2, hz⟩ := hA.zip
  have hzl : z.length = h.length := by rw [hz2]; simp
  refine wr_of rfl ?_
  show WSs φ [_, _, _] [some (.dat hd), some (.dat (.list ms)), some (.dat (boxD b)), none, none, none, none, none, none] _
  repeat eq_refl
  nofun
  refine wss_for (List.range z.length) (fun p => .tuple [ic p, (z.getD p (.none, ⟨0, [], []⟩)).1]) (fun don ρ => ∃ (x4 x5 x6 : Option SV), ρ = [some (.dat hd), some (.dat (.list ms)), some (.dat (boxD b)), some (.own none (.list (don.map fun p => rowD (toldPart h b p)))), x4, x5, x6, none, none]) ?_
  repeat eq_refl
  refine sw_of e1 ?_
  refine ⟨by rw [hz1]; exact enumD_gen (·.1) (.none, ⟨0, [], []⟩) z, ⟨_, _, _, rfl⟩, ?_, ?_⟩
  · rintro don p rest _ e ⟨x4, x5, x6, rfl⟩
    obtain ⟨e3, e4⟩ := range_split e
    have hdl : don.length = p := by rw [e3]; simp
    have hp : p < h.length := by omega
    obtain ⟨q, hq, hqz⟩ : ∃ q, q ∈ z ∧ z[p]? = some q := ⟨z[p], List.getElem_mem e4, List.getElem?_eq_getElem e4⟩
    have hgd : z.getD p (.none, ⟨0, [], []⟩) = q := by rw [List.getD_eq_getElem?_getD, hqz]; rfl
    have hat : h[p]? = some q.2 := by rw [hz2, List.getElem?_map, hqz]; rfl
    have hqm : q.2 ∈ h := List.mem_of_getElem? hat
    obtain ⟨dd, d1, d2⟩ := m3 p q.2 hat
    obtain ⟨v, ee, t, i0, i1, i2, i3, r1, r2⟩ := (hz q hq).parts
    have heyes := (w.eyes q.2 hqm)
    have ey : eyesAt h p = q.2.eyes := by simp [eyesAt, hat]
    have hpart : ∀ j, j < h.length → (b.map rowD)[j]? = some (rowD (partAt b j)) := fun j hj => by
      have hj' : j < b.length := by rw [ib.len]; exact hj
      rw [List.getElem?_map, List.getElem?_eq_getElem hj']
      simp [partAt, List.getElem?_eq_getElem hj']
    rw [hgd]
    repeat eq_refl
    refine we_lc q.2.eyes ic (fun e => rowD (partAt b e)) ?_
    repeat eq_refl
    refine pw_of i1 ?_
    repeat eq_refl
    refine sw_of r1 ?_
    refine ⟨rfl, fun j hj => ?_, ?_⟩
    · nofun
      repeat eq_refl
      refine pw_idx rfl (hpart j (heyes.2 j hj)) ?_
      repeat eq_refl
      exact ⟨rfl, rfl⟩
    · repeat eq_refl
      refine wf_mono (S _ (q.2.eyes.map (partAt b)) ⟨_, rfl, all2_map _ _ _ fun a _ => row_seq _⟩ (by rw [List.length_map]; exact heyes.1) (fun s hs => ?_)) ?_
      · obtain ⟨j, hj, rfl⟩ := List.mem_map.mp hs
        unfold partAt
        cases hq2 : b[j]? with
        | none => simp
        | some s => exact i.few s (List.mem_of_getElem? hq2)
      · rintro v2 o2 hv2
        repeat eq_refl
        nofun
        refine we_lc (rowsIn h b p) rowD (fun r => ic (tellAt h p r)) ?_
        repeat eq_refl
        refine we_varx rfl ?_
        rw [setV_d, hv2]
        repeat eq_refl
        nofun
        refine ⟨by unfold rowsIn; rw [ey], fun r hr => ?_, ?_⟩
        · have hr2 : r ∈ rowsAmong ((q.2.eyes.map (szAt h)).map List.range) := by
            unfold rowsIn at hr
            rw [mem_rowsAmong, ey] at hr
            exact (mem_rowsAmong _ _).mpr (rows_in_all i _ _ hr)
          nofun
          repeat eq_refl
          refine pw_idx rfl d1 ?_
          repeat eq_refl
          refine pw_of (d2 r hr2) ?_
          exact ⟨rfl, rfl⟩
        · repeat eq_refl
          refine pw_sset (xs := (rowsIn h b p).map (tellAt h p)) (by unfold Row; simp [seqOf]) (by rw [List.length_map]; have := rowsIn_len w i hp h3; omega) (Nat.lt_of_le_of_lt (toldPart_few w i hp) (by decide)) ?_
          repeat eq_refl
          refine lw_of (by simp; have := w.few; omega) ?_
          repeat eq_refl
          nofun
          exact ⟨rfl, _, _, _, by rw [List.map_append]; rfl⟩
  · rintro _ ⟨x4, x5, x6, rfl⟩
    repeat eq_refl
    unfold toldBox
    rw [hzl, boxD, List.map_map]
    rfl
def SpSay (φ : Fn) : Prop := ∀ (hd md : PyData) (h : List Fd) (b : List (List Nat)), Wf h → (∀ f ∈ h, f.eyes.length ≤ 2) → HouseR hd h → MapsR md h → IsBox h b → WF φ "_law_say" [.dat hd, .dat md, .dat (boxD b)] fun v _ => v = .dat (boxD (toldBox h b))
def SpBoth (φ : Fn) : Prop := ∀ (h : List Fd) (a b : List (List Nat)), Wf h → IsBox h a → IsBox h b → WF φ "_law_both" [.dat (boxD a), .dat (boxD b)] fun v _ => v = .dat (boxD (joinB h a b))
theorem wr_grow {φ : Fn} (S1 : SpSay φ) (S2 : SpBoth φ) {hd md : PyData} {h : List Fd} {b : List (List Nat)} (w : Wf h) (h3 : ∀ f ∈ h, f.eyes.length ≤ 2) (hh : HouseR hd h) (hm : MapsR md h) (ib : IsBox h b) : WR φ c__law_grow [.dat hd, .dat md, .dat (boxD b)] fun v _ => ∃ g, Grown h b g ∧ v = .dat (boxD g) := by
  refine wr_of rfl ?_
  show WSs φ [_, _, _] [some (.dat hd), some (.dat md), some (.dat (boxD b)), none, none, none] _
  repeat eq_refl
  refine ⟨_, rfl, ?_⟩
  nofun
  refine wss_while (fun m ρ => ∃ (k : Nat) (t : Bool) (x5 : Option SV), ρ = [some (.dat hd), some (.dat md), some (.dat (boxD b)), some (.dat (boxD (itG h b k))), some (.dat (.bool t)), x5] ∧ (t = false → itG h b (k + 1) = itG h b k) ∧ m = 2 * (256 - sizeB h (itG h b k)) + (if t then 1 else 0)) (2 * (256 - sizeB h b) + 1) (by omega) ⟨0, true, none, rfl, fun z => (nomatch z), rfl⟩ ?_
  rintro m _ ⟨k, t, x5, rfl, k1, rfl⟩
  have bk := itG_box w ib k
  have bk1 := itG_box w ib (k + 1)
  repeat eq_refl
  refine ⟨fun ht => ?_, fun ht => ?_⟩
  · repeat eq_refl
    exact ⟨_, grown_of w ib (k1 ht), rfl⟩
  · subst ht
    repeat eq_refl
    refine wf_mono (S1 hd md h _ w h3 hh hm bk) ?_
    rintro _ o1 rfl
    nofun
    repeat eq_refl
    refine wf_mono (S2 h _ _ w bk (told_box w bk)) ?_
    rintro _ o2 rfl
    nofun
    repeat eq_refl
    refine pw_ne (shaped_box _) (shaped_box _) (eqv_box _ _) ?_
    repeat eq_refl
    refine ⟨_, rfl, ?_⟩
    nofun
    repeat eq_refl
    refine ⟨rfl, _, ?_, k + 1, !decide (joinB h (itG h b k) (toldBox h (itG h b k)) = itG h b k), _, rfl, fun hz => ?_, rfl⟩
    · by_cases hq : joinB h (itG h b k) (toldBox h (itG h b k)) = itG h b k
      · rw [decide_eq_true hq]
        have e : itG h b (k + 1) = itG h b k := hq
        rw [e]
        simp
      · rw [decide_eq_false hq]
        have := size_lt bk bk1 (grow_sub) (fun z => hq z.symm)
        have := size_le w bk1
        simp
        omega
    · have hq : joinB h (itG h b k) (toldBox h (itG h b k)) = itG h b k := by simpa using hz
      have e : itG h b (k + 1) = itG h b k := hq
      show growStep h (itG h b (k + 1)) = itG h b (k + 1)
      rw [e]
      exact e
end K10

set_option Elab.async false
set_option linter.all false
set_option autoImplicit false
set_option maxRecDepth 100000
set_option maxHeartbeats 4000000
namespace K10
open PySem LI
local macro_rules | `(tactic| eq_refl) => `(tactic| first
  | refine we_cst ?_ | refine we_prim ?_ | refine we_var rfl ?_ | refine we_varo rfl ?_ | refine wo_var rfl ?_ | refine wo_cons rfl ?_ | refine wo_nil ?_
  | refine rw_inr ?_ | refine rw_dat rfl ?_ | refine rw_own rfl ?_ | refine rw_nil ?_
  | refine pw_idxc rfl rfl ?_ | refine pw_add ?_ | refine pw_sub ?_ | refine pw_neg ?_ | refine pw_lt ?_ | refine pw_le ?_ | refine pw_gt ?_ | refine pw_ge ?_ | refine pw_int ?_ | refine pw_intb ?_ | refine pw_abs ?_ | refine pw_min2 ?_ | refine pw_isnone ?_ | refine pw_notnone ?_ | refine pw_len rfl ?_ | refine pw_tuple rfl ?_ | refine pw_list rfl ?_ | refine pw_isi rfl ?_
  | refine pw_mod (by first | decide | omega) ?_ | refine pw_fdiv (by first | decide | omega) (by first | decide | omega) ?_ | refine pw_mulr (by first | decide | omega) (by first | decide | omega) ?_ | refine pw_mull (by first | decide | omega) (by first | decide | omega) ?_
  | refine wa_plain ?_ | refine wa_nil ?_ | refine wa_false ?_ | refine wa_lend rfl ?_ | refine wa_dat rfl ?_ | refine wa_true rfl ?_ | refine bk_none ?_
  | refine sw_of rfl ?_ | refine nw_of (by omega) ?_ | refine xw_of rfl rfl rfl ?_ | refine ow_of rfl ?_ | refine dw_of rfl ?_ | refine lw_of (Nat.le_of_ble_eq_true rfl) ?_
  | refine wl_nil ?_ | refine wl_star ?_ | refine wl_cons rfl ?_ | refine wv_nil ?_ | refine wv_cons ?_
  | refine we_call ?_ | refine we_tup ?_ | refine we_lst ?_ | refine we_and ?_ | refine we_or ?_ | refine we_not ?_ | refine we_ite ?_ | refine we_sl2 ?_ | refine we_popAt rfl ?_
  | refine tw_bool ?_ | refine tw_list ?_ | refine tw_tuple ?_ | refine tw_int ?_ | refine tw_none ?_ | refine wc_none ?_ | refine wc_some ?_ | refine wt_of ?_
  | refine ts_one ?_ | refine ts_two ?_ | refine ts_three ?_ | refine wi_seq ?_ | refine wi_enum ?_ | refine wi_zip ?_ | refine wi_rng1 ?_
  | refine own_ok rfl ?_ | refine endq_ret ?_ | refine endq_nx ?_ | refine go_nx ?_ | refine go_ret ?_ | refine go_true ?_ | refine go_false ?_
  | refine wss_asg ?_ | refine wss_pasg ?_ | refine wss_uasg ?_ | refine wss_seti ?_ | refine wss_app rfl ?_ | refine wss_expr ?_ | refine wss_ite ?_ | refine wss_retd rfl ?_ | refine wss_reto rfl ?_ | refine wss_ret rfl ?_ | refine wss_retN ?_ | refine wss_nil ?_)
local macro_rules | `(tactic| nofun) => `(tactic| try dsimp only [List.set_cons_succ, List.set_cons_zero, setV_dat, setV_own, sv_dat, sv_own, wipeR, restR, giveB, upB, Option.map_some, Option.map_none, List.getElem?_cons_succ, List.getElem?_cons_zero, Option.getD_some])

/-! ### each box once -/
theorem subs_nodup {l : List Nat} : Asc l → (subsOf l).Nodup := by
  refine snoc_ind (P := fun l => Asc l → (subsOf l).Nodup) (fun _ => by simp [subsOf]) (fun l a ih => ?_) l
  intro ha
  obtain ⟨a1, _, a3⟩ := List.pairwise_append.mp ha
  rw [subs_snoc, List.nodup_append]
  refine ⟨ih a1, List.Pairwise.map _ (fun s t hst e => hst (List.append_cancel_right e)) (ih a1), fun s hs t ht e => ?_⟩
  obtain ⟨u, hu, rfl⟩ := List.mem_map.mp ht
  have h1 := ((mem_subs a1 s).mp hs).2 a (by rw [e]; simp)
  have := a3 a h1 a (by simp)
  omega
theorem comb_nodup {α β : Type} {f : α → List β} (l : List α) : (∀ a ∈ l, (f a).Nodup) → (comb f l).Nodup := by
  refine snoc_ind (P := fun l => (∀ a ∈ l, (f a).Nodup) → (comb f l).Nodup) (fun _ => by simp [comb]) (fun l a ih => ?_) l
  intro h
  rw [comb_snoc, List.Nodup, List.pairwise_flatMap]
  refine ⟨fun own _ => List.Pairwise.map _ (fun s t hst e => hst (by simpa using e)) (h a (by simp)), ?_⟩
  refine List.Pairwise.imp ?_ (ih fun b hb => h b (by simp [hb]))
  intro o1 o2 ho x hx y hy e
  obtain ⟨s, _, rfl⟩ := List.mem_map.mp hx
  obtain ⟨t, _, rfl⟩ := List.mem_map.mp hy
  exact ho (List.append_inj_left' e rfl)
theorem part_of_mem {b : List (List Nat)} {s : List Nat} (h : s ∈ b) : ∃ p, p < b.length ∧ partAt b p = s := by
  obtain ⟨p, hp, rfl⟩ := List.mem_iff_getElem.mp h
  exact ⟨p, hp, by unfold partAt; rw [List.getElem?_eq_getElem hp]; rfl⟩
theorem bags_nodup {h : List Fd} {b : List (List Nat)} (i : IsBox h b) : (bagsOf b).Nodup := by
  refine comb_nodup b fun s hs => ?_
  obtain ⟨p, hp, rfl⟩ := part_of_mem hs
  exact List.Pairwise.filter _ (subs_nodup (i.asc p (by rw [← i.len]; exact hp)))
/-! ### what lasts -/
def lastingOf (h : List Fd) (g : List (List Nat)) : List (List (List Nat)) := (bagsOf g).filter fun c => liesIn c (toldBox h c)
theorem mem_lasting {h : List Fd} {g : List (List Nat)} (i : IsBox h g) (c : List (List Nat)) : c ∈ lastingOf h g ↔ IsBox h c ∧ Sub h c g ∧ Sub h c (toldBox h c) := by
  unfold lastingOf
  rw [List.mem_filter, mem_bags i]
  constructor
  · rintro ⟨⟨h1, h2⟩, h3⟩
    exact ⟨h1, h2, (lies_iff h1.len).mp h3⟩
  · rintro ⟨h1, h2, h3⟩
    exact ⟨⟨h1, h2⟩, (lies_iff h1.len).mpr h3⟩
theorem limit_lasts {h : List Fd} {g l : List (List Nat)} (i : IsBox h g) (L : Limit h g l) : l ∈ lastingOf h g := (mem_lasting i l).mpr ⟨L.box, L.sub, told_refl L.told⟩
def swingOf (h : List Fd) (ls : List (List (List Nat))) : List Nat := (List.range h.length).filter fun j => !decide ((ls.filter fun c => decide (1 < (partAt c j).length)) = [])
theorem swing_eq {h : List Fd} {g l : List (List Nat)} (i : IsBox h g) (L : Limit h g l) : swingOf h (lastingOf h g) = wideOf l := by
  unfold swingOf wideOf
  rw [L.box.len]
  refine List.filter_congr fun j hj => ?_
  have hj' := List.mem_range.mp hj
  by_cases q : 1 < (partAt l j).length
  · have : ¬ ((lastingOf h g).filter fun c => decide (1 < (partAt c j).length)) = [] := fun z => by
      have hm : l ∈ (lastingOf h g).filter fun c => decide (1 < (partAt c j).length) := List.mem_filter.mpr ⟨limit_lasts i L, decide_eq_true q⟩
      rw [z] at hm; cases hm
    rw [decide_eq_true q, decide_eq_false this]; rfl
  · have : ((lastingOf h g).filter fun c => decide (1 < (partAt c j).length)) = [] := by
      rw [List.filter_eq_nil_iff]
      intro c hc
      rw [decide_eq_true_eq]
      obtain ⟨h1, h2, h3⟩ := (mem_lasting i c).mp hc
      have := asc_sub_len (h1.asc j hj') (L.box.asc j hj') (L.great c h2 h3 j hj')
      omega
    rw [decide_eq_false q, decide_eq_true this]; rfl
theorem pt_iff {h : List Fd} {l : List (List Nat)} (i : IsBox h l) : isPt l = decide (wideOf l = []) := by
  have e : isPt l = true ↔ wideOf l = [] := by
    unfold isPt wideOf
    rw [List.all_eq_true, List.filter_eq_nil_iff]
    constructor
    · intro H p hp
      rw [decide_eq_true_eq]
      have hp' := List.mem_range.mp hp
      have := H (partAt l p) (by unfold partAt; rw [List.getElem?_eq_getElem hp']; exact List.getElem_mem _)
      rw [decide_eq_true_eq] at this
      omega
    · intro H s hs
      obtain ⟨p, hp, rfl⟩ := part_of_mem hs
      have h1 := H p (List.mem_range.mpr hp)
      rw [decide_eq_true_eq] at h1 ⊢
      have h2 := i.ne p (by rw [← i.len]; exact hp)
      have h3 : 0 < (partAt l p).length := List.length_pos_iff.mpr h2
      omega
  by_cases q : wideOf l = []
  · rw [decide_eq_true q]; exact e.mpr q
  · rw [decide_eq_false q]
    cases hp : isPt l with
    | false => rfl
    | true => exact absurd (e.mp hp) q
theorem points_eq {h : List Fd} {g l : List (List Nat)} (i : IsBox h g) (L : Limit h g l) (hw : wideOf l = []) : (lastingOf h g).filter isPoint = [l] := by
  have hpt := pt_iff L.box
  rw [decide_eq_true hw] at hpt
  have one : ∀ p < h.length, (partAt l p).length = 1 := fun p hp => by
    have := List.all_eq_true.mp hpt (partAt l p) (by unfold partAt; rw [List.getElem?_eq_getElem (by rw [L.box.len]; exact hp)]; exact List.getElem_mem _)
    simpa using this
  have same : ∀ c ∈ lastingOf h g, c = l := fun c hc => by
    obtain ⟨h1, h2, h3⟩ := (mem_lasting i c).mp hc
    have h4 := L.great c h2 h3
    refine box_ext h1 L.box h4 fun p hp x hx => ?_
    have := asc_sub_eq (h1.asc p hp) (L.box.asc p hp) (h4 p hp) (by rw [one p hp]; exact List.length_pos_iff.mpr (h1.ne p hp))
    rw [this]; exact hx
  have hp : isPoint l = true := by
    unfold isPoint
    rw [decide_eq_true_eq, List.filter_eq_nil_iff]
    intro s hs
    obtain ⟨p, hp, rfl⟩ := part_of_mem hs
    rw [decide_eq_true_eq, one p (by rw [← L.box.len]; exact hp)]
    omega
  have hm : l ∈ (lastingOf h g).filter isPoint := List.mem_filter.mpr ⟨limit_lasts i L, hp⟩
  have nd : ((lastingOf h g).filter isPoint).Nodup := List.Pairwise.filter _ (List.Pairwise.filter _ (bags_nodup i))
  have all : ∀ c ∈ (lastingOf h g).filter isPoint, c = l := fun c hc => same c (List.mem_filter.mp hc).1
  match hq : (lastingOf h g).filter isPoint with
  | [] => rw [hq] at hm; cases hm
  | [c] => rw [all c (by rw [hq]; simp)]
  | c :: d :: r =>
    rw [hq] at nd
    have h1 := all c (by rw [hq]; simp)
    have h2 := all d (by rw [hq]; simp)
    rw [h1, h2] at nd
    simp at nd
/-! ### houses as data -/
theorem ok_wf {h : List Fd} (o : HouseOk h) (hl : h.length ≤ 16) : Wf h := ⟨hl, fun f hf => ⟨(o.n1 f hf).1, by have := (o.n1 f hf).2; omega⟩, fun f hf => ⟨by have := (o.eyes f hf).1; omega, (o.eyes f hf).2.2⟩, fun f hf => o.tab f hf⟩
theorem house_rel {h : List Fd} (o : HouseOk h) : HouseR (houseT h) h := by
  refine ⟨h.map fdT, rfl, ?_⟩
  have := all2_map (R := FdR) fdT id h fun f hf => ⟨nmD f.n, rowD f.eyes, rowD f.tab, _, rfl, rfl, by have := (o.n1 f hf).2; simp; omega, row_seq _, row_seq _⟩
  simpa using this
theorem ls_row (s : List Nat) : lsD (rowD s) = .list (s.map ic) := by
  simp only [lsD, lsDs_map, List.map_map]
  congr 1
theorem ls_box (b : List (List Nat)) : lsD (boxD b) = .list (b.map fun s => .list (s.map ic)) := by
  simp only [lsD, lsDs_map, List.map_map]
  congr 1
  exact List.map_congr_left fun s _ => ls_row s
theorem box_lists (b : List (List Nat)) : BoxR (lsD (boxD b)) b := by
  rw [ls_box]
  refine ⟨_, rfl, ?_⟩
  have := all2_map (R := Row) (fun s : List Nat => PyData.list (s.map ic)) id b fun s _ => rfl
  simpa using this
theorem house_lists {h : List Fd} (o : HouseOk h) : HouseR (lsD (houseT h)) h := by
  refine ⟨(h.map fdT).map lsD, by simp [houseT, lsD, lsDs_map], ?_⟩
  rw [List.map_map]
  have := all2_map (R := FdR) (lsD ∘ fdT) id h fun f hf => by
    refine ⟨lsD (nmD f.n), lsD (rowD f.eyes), lsD (rowD f.tab), (List.take f.n [PyData.str "no", PyData.str "yes", PyData.str "zeal"]).map lsD, ?_, ?_, ?_, ?_, ?_⟩
    · simp [fdT, lsD, lsDs]
    · simp [nmD, lsD, lsDs_map]
    · have := (o.n1 f hf).2; simp; omega
    · rw [ls_row]; rfl
    · rw [ls_row]; rfl
  simpa using this
/-! ### shapes -/
theorem lay_all {α : Type} {f : α → PyData} {k : Nat} : ∀ {l : List α}, (∀ a ∈ l, PyData.canLay0 (f a) = true ∧ PyData.depth (f a) ≤ k) → PyData.canLayAll0 (l.map f) = true ∧ PyData.depthAll (l.map f) ≤ k
  | [], _ => ⟨rfl, by simp [PyData.depthAll]⟩
  | a :: l, h => by
    obtain ⟨h1, h2⟩ := h a (by simp)
    obtain ⟨h3, h4⟩ := lay_all (l := l) fun b hb => h b (by simp [hb])
    refine ⟨by simp [PyData.canLayAll0, h1, h3], ?_⟩
    simp only [List.map_cons, PyData.depthAll]
    omega
theorem lay_tuple {xs : List PyData} {k : Nat} (h : PyData.canLayAll0 xs = true ∧ PyData.depthAll xs ≤ k) : PyData.canLay0 (.tuple xs) = true ∧ PyData.depth (.tuple xs) ≤ k + 1 := by
  refine ⟨by simp [PyData.canLay0, h.1], ?_⟩
  simp only [PyData.depth]
  omega
theorem lay_list {xs : List PyData} {k : Nat} (h : PyData.canLayAll0 xs = true ∧ PyData.depthAll xs ≤ k) : PyData.canLay0 (.list xs) = true ∧ PyData.depth (.list xs) ≤ k + 1 := by
  refine ⟨by simp [PyData.canLay0, h.1], ?_⟩
  simp only [PyData.depth]
  omega
theorem lay_r (s : List Nat) : PyData.canLay0 (rowD s) = true ∧ PyData.depth (rowD s) ≤ 2 := lay_tuple (lay_row s)
theorem lay_b (b : List (List Nat)) : PyData.canLay0 (boxD b) = true ∧ PyData.depth (boxD b) ≤ 3 := lay_tuple (lay_all fun s _ => lay_r s)
theorem lay_le {d : PyData} {k m : Nat} (h : PyData.canLay0 d = true ∧ PyData.depth d ≤ k) (l : k ≤ m) : PyData.canLay0 d = true ∧ PyData.depth d ≤ m := ⟨h.1, Nat.le_trans h.2 l⟩
theorem lay_two {a b : PyData} {k : Nat} (ha : PyData.canLay0 a = true ∧ PyData.depth a ≤ k) (hb : PyData.canLay0 b = true ∧ PyData.depth b ≤ k) : PyData.canLayAll0 [a, b] = true ∧ PyData.depthAll [a, b] ≤ k := by
  have := lay_all (f := id) (l := [a, b]) (k := k) fun x hx => by
    rcases List.mem_cons.mp hx with rfl | hx
    · exact ha
    · rw [List.mem_singleton] at hx; subst hx; exact hb
  simpa using this
theorem lay_nm (n : Nat) : PyData.canLay0 (nmD n) = true ∧ PyData.depth (nmD n) ≤ 2 := by
  have key : ∀ n, n ≤ 3 → PyData.canLay0 (nmD n) = true ∧ PyData.depth (nmD n) ≤ 2 := by decide +kernel
  by_cases h : n ≤ 3
  · exact key n h
  · have : nmD n = nmD 3 := by unfold nmD; rw [List.take_of_length_le (by simp; omega), List.take_of_length_le (by simp)]
    rw [this]; exact key 3 (by decide)
theorem lay_fd (f : Fd) : PyData.canLay0 (fdT f) = true ∧ PyData.depth (fdT f) ≤ 3 := by
  refine lay_tuple ?_
  have := lay_all (f := id) (l := [nmD f.n, rowD f.eyes, rowD f.tab]) (k := 2) fun x hx => by
    simp only [List.mem_cons, List.not_mem_nil, or_false] at hx
    rcases hx with rfl | rfl | rfl
    · exact lay_nm _
    · exact lay_r _
    · exact lay_r _
  simpa using this
theorem lay_h (h : List Fd) : PyData.canLay0 (houseT h) = true ∧ PyData.depth (houseT h) ≤ 4 := lay_tuple (lay_all fun f _ => lay_fd f)
mutual
theorem lay_ls : ∀ (d : PyData), PyData.canLay0 d = true → PyData.canLay0 (lsD d) = true ∧ PyData.depth (lsD d) = PyData.depth d
  | .list xs, h => by
    simp only [PyData.canLay0] at h
    obtain ⟨h1, h2⟩ := lay_lss xs h
    exact ⟨by simp only [lsD, PyData.canLay0, h1], by simp only [lsD, PyData.depth, h2]⟩
  | .tuple xs, h => by
    simp only [PyData.canLay0] at h
    obtain ⟨h1, h2⟩ := lay_lss xs h
    exact ⟨by simp only [lsD, PyData.canLay0, h1], by simp only [lsD, PyData.depth, h2]⟩
  | .none, h => ⟨by simp only [lsD]; exact h, by simp only [lsD]⟩
  | .bool b, h => ⟨by simp only [lsD]; exact h, by simp only [lsD]⟩
  | .int i, h => ⟨by simp only [lsD]; exact h, by simp only [lsD]⟩
  | .str x, h => ⟨by simp only [lsD]; exact h, by simp only [lsD]⟩
  | .dict k, h => by simp [PyData.canLay0] at h
theorem lay_lss : ∀ (xs : List PyData), PyData.canLayAll0 xs = true → PyData.canLayAll0 (lsDs xs) = true ∧ PyData.depthAll (lsDs xs) = PyData.depthAll xs
  | [], _ => ⟨by simp [lsDs, PyData.canLayAll0], by simp [lsDs]⟩
  | x :: r, h => by
    simp only [PyData.canLayAll0, Bool.and_eq_true] at h
    obtain ⟨h1, h2⟩ := lay_ls x h.1
    obtain ⟨h3, h4⟩ := lay_lss r h.2
    exact ⟨by simp only [lsDs, PyData.canLayAll0, h1, h3, Bool.and_self], by simp only [lsDs, PyData.depthAll, h2, h4]⟩
end
end K10

set_option Elab.async false
set_option linter.all false
set_option autoImplicit false
set_option maxRecDepth 100000
set_option maxHeartbeats 40000000
namespace K10
open PySem LI
local macro_rules | `(tactic| eq_refl) => `(tactic| first
  | refine we_cst ?_ | refine we_prim ?_ | refine we_var rfl ?_ | refine we_varo rfl ?_ | refine wo_var rfl ?_ | refine wo_cons rfl ?_ | refine wo_nil ?_
  | refine rw_inr ?_ | refine rw_dat rfl ?_ | refine rw_own rfl ?_ | refine rw_nil ?_
  | refine pw_idxc rfl rfl ?_ | refine pw_add ?_ | refine pw_sub ?_ | refine pw_neg ?_ | refine pw_lt ?_ | refine pw_le ?_ | refine pw_gt ?_ | refine pw_ge ?_ | refine pw_int ?_ | refine pw_intb ?_ | refine pw_abs ?_ | refine pw_min2 ?_ | refine pw_isnone ?_ | refine pw_notnone ?_ | refine pw_len rfl ?_ | refine pw_tuple rfl ?_ | refine pw_list rfl ?_ | refine pw_isi rfl ?_
  | refine pw_mod (by first | decide | omega) ?_ | refine pw_fdiv (by first | decide | omega) (by first | decide | omega) ?_ | refine pw_mulr (by first | decide | omega) (by first | decide | omega) ?_ | refine pw_mull (by first | decide | omega) (by first | decide | omega) ?_
  | refine wa_plain ?_ | refine wa_nil ?_ | refine wa_false ?_ | refine wa_lend rfl ?_ | refine wa_dat rfl ?_ | refine wa_true rfl ?_ | refine bk_none ?_
  | refine sw_of rfl ?_ | refine nw_of (by omega) ?_ | refine xw_of rfl rfl rfl ?_ | refine ow_of rfl ?_ | refine dw_of rfl ?_ | refine lw_of (Nat.le_of_ble_eq_true rfl) ?_
  | refine wl_nil ?_ | refine wl_star ?_ | refine wl_cons rfl ?_ | refine wv_nil ?_ | refine wv_cons ?_
  | refine we_call ?_ | refine we_tup ?_ | refine we_lst ?_ | refine we_and ?_ | refine we_or ?_ | refine we_not ?_ | refine we_ite ?_ | refine we_sl2 ?_ | refine we_popAt rfl ?_
  | refine tw_bool ?_ | refine tw_list ?_ | refine tw_tuple ?_ | refine tw_int ?_ | refine tw_none ?_ | refine wc_none ?_ | refine wc_some ?_ | refine wt_of ?_
  | refine ts_one ?_ | refine ts_two ?_ | refine ts_three ?_ | refine wi_seq ?_ | refine wi_enum ?_ | refine wi_zip ?_ | refine wi_rng1 ?_
  | refine own_ok rfl ?_ | refine endq_ret ?_ | refine endq_nx ?_ | refine go_nx ?_ | refine go_ret ?_ | refine go_true ?_ | refine go_false ?_
  | refine wss_asg ?_ | refine wss_pasg ?_ | refine wss_uasg ?_ | refine wss_seti ?_ | refine wss_app rfl ?_ | refine wss_expr ?_ | refine wss_ite ?_ | refine wss_retd rfl ?_ | refine wss_reto rfl ?_ | refine wss_ret rfl ?_ | refine wss_retN ?_ | refine wss_nil ?_)
local macro_rules | `(tactic| nofun) => `(tactic| try dsimp only [List.set_cons_succ, List.set_cons_zero, setV_dat, setV_own, sv_dat, sv_own, wipeR, restR, giveB, upB, Option.map_some, Option.map_none, List.getElem?_cons_succ, List.getElem?_cons_zero, Option.getD_some])

theorem wf_rets {φ : Fn} {f : Str} {as : List SV} {d : PyData} (R : Rets φ f as d) : WF φ f as fun v _ => v.d = d := by
  obtain ⟨r, o, h1, h2⟩ := R.ex
  unfold WF
  exact ⟨r, o, h1, h2⟩
def SpMaps (φ : Fn) : Prop := ∀ (hd : PyData) (h : List Fd), Wf h → HouseR hd h → WF φ "_law_maps" [.dat hd] fun v _ => MapsR v.d h
def SpLists (φ : Fn) : Prop := ∀ d : PyData, PyData.canLay0 d = true → PyData.depth d < 20 → WF φ "_law_lists" [.dat d] fun v _ => v = lsV d
def SpSame (φ : Fn) : Prop := ∀ d : PyData, PyData.canLay0 d = true → PyData.depth d < 20 → WF φ "_law_same" [.dat d, .dat d] fun v _ => v = .dat (.bool true)
def SpBags (φ : Fn) : Prop := ∀ b : List (List Nat), b.length ≤ 4 → (∀ s ∈ b, s.length ≤ 4) → WF φ "_law_bags" [.dat (boxD b)] fun v _ => v.d = .list ((bagsOf b).map boxD)
def SpGrowL (φ : Fn) : Prop := ∀ (hd md : PyData) (h : List Fd) (b : List (List Nat)), Wf h → (∀ f ∈ h, f.eyes.length ≤ 2) → HouseR hd h → MapsR md h → IsBox h b → WF φ "_law_grow" [.dat hd, .dat md, .dat (boxD b)] fun v _ => ∃ g, Grown h b g ∧ v = .dat (boxD g)
def SpLies (φ : Fn) : Prop := ∀ a b : List (List Nat), a.length ≤ b.length → WF φ "_law_lies" [.dat (boxD a), .dat (boxD b)] fun v _ => v = .dat (.bool (liesIn a b))
def SpIsPoint (φ : Fn) : Prop := ∀ b : List (List Nat), WF φ "_law_is_point" [.dat (boxD b)] fun v _ => v = .dat (.bool (isPoint b))
def SpSettles (φ : Fn) : Prop := ∀ (hd bd : PyData) (h : List Fd) (b : List (List Nat)), Wf h → (∀ f ∈ h, f.eyes.length ≤ 2) → HouseR hd h → BoxR bd b → IsBox h b → ∃ g l, Grown h b g ∧ Limit h g l ∧ Rets φ "settles" [.dat hd, .dat bd] (.bool (isPt l))
def SpSwing (φ : Fn) : Prop := ∀ (hd bd : PyData) (h : List Fd) (b : List (List Nat)), Wf h → (∀ f ∈ h, f.eyes.length ≤ 2) → HouseR hd h → BoxR bd b → IsBox h b → ∃ g l, Grown h b g ∧ Limit h g l ∧ Rets φ "swinging" [.dat hd, .dat bd] (rowD (wideOf l))
structure HouseD (hd : PyData) (h : List Fd) : Prop where
  rel : HouseR hd h
  lists : HouseR (lsD hd) h
  lay : PyData.canLay0 hd = true ∧ PyData.depth hd ≤ 4
theorem house_data {h : List Fd} (o : HouseOk h) : HouseD (houseT h) h := ⟨house_rel o, house_lists o, lay_h h⟩
theorem shaped_bags (l : List (List (List Nat))) : SeqAt.shaped (.list (l.map boxD)) = true := by
  obtain ⟨h1, h2⟩ := lay_list (lay_all (l := l) fun b _ => lay_b b)
  unfold SeqAt.shaped
  rw [h1, decide_eq_true (Nat.le_trans h2 (by decide))]; rfl
theorem ls_two (x y : PyData) : lsD (.list [x, y]) = .list [lsD x, lsD y] := by simp only [lsD, lsDs]
theorem wr_case {φ : Fn} (S1 : SpMaps φ) (S2 : SpLists φ) (S3 : SpBags φ) (S4 : SpGrowL φ) (S5 : SpLies φ) (S6 : SpSay φ) (S7 : SpIsPoint φ) (S8 : SpSettles φ) (S9 : SpEnd φ) (S10 : SpSwing φ) (S11 : SpSame φ)
    {hd : PyData} {h : List Fd} {b : List (List Nat)} (H : HouseD hd h) (o : HouseOk h) (hl : h.length ≤ 4) (ib : IsBox h b) : WR φ c__law_case_right [.dat hd, .dat (boxD b)] fun v _ => v = .dat (.bool true) := by
  have w : Wf h := ok_wf o (by omega)
  have h3 : ∀ f ∈ h, f.eyes.length ≤ 2 := fun f hf => (o.eyes f hf).1
  have hh := H.rel
  obtain ⟨ds, hds, hdl⟩ := hh.seq
  have lay2 := lay_list (lay_two (lay_le (H.lay) (Nat.le_refl 4)) (lay_le (lay_b b) (by decide)))
  refine wr_of rfl ?_
  show WSs φ [_, _, _, _, _, _, _, _, _, _] [some (.dat hd), some (.dat (boxD b)), none, none, none, none, none, none, none, none, none, none, none] _
  repeat eq_refl
  refine wf_mono (S1 _ h w hh) ?_
  rintro v2 o2 hv2
  nofun
  repeat eq_refl
  refine wf_mono (S2 _ lay2.1 (Nat.lt_of_le_of_lt lay2.2 (by decide))) ?_
  rintro _ o3 rfl
  nofun
  repeat eq_refl
  refine ⟨_, rfl, ?_⟩
  nofun
  repeat eq_refl
  refine we_varx rfl ?_
  rw [setV_d]
  repeat eq_refl
  nofun
  refine wf_mono (S4 _ _ h b w h3 hh hv2 ib) ?_
  rintro _ o4 ⟨g, G, rfl⟩
  have hgl : g.length ≤ 4 := by rw [G.box.len]; exact hl
  have hgs : ∀ s ∈ g, s.length ≤ 4 := fun s hs => by
    obtain ⟨p, hp, rfl⟩ := part_of_mem hs
    have hp' : p < h.length := by rw [← G.box.len]; exact hp
    have := asc_len (G.box.asc p hp') (G.box.at_ p hp')
    have e : szAt h p ≤ 3 := by
      unfold szAt
      rw [List.getElem?_eq_getElem hp']
      exact (o.n1 _ (List.getElem_mem hp')).2
    omega
  nofun
  repeat eq_refl
  refine wf_mono (S3 g hgl hgs) ?_
  rintro v4 o5 hv4
  nofun
  repeat eq_refl
  have hbox : ∀ c ∈ bagsOf g, IsBox h c := fun c hc => ((mem_bags G.box c).mp hc).1
  refine we_lcif (bagsOf g) boxD (fun c => liesIn c (toldBox h c)) boxD ?_
  nofun
  repeat eq_refl
  refine we_varx rfl ?_
  rw [setV_d, hv4]
  repeat eq_refl
  nofun
  refine ⟨rfl, fun c hc => ?_, ?_⟩
  · have icb := hbox c hc
    nofun
    repeat eq_refl
    refine wf_mono (S6 _ _ h c w h3 hh hv2 icb) ?_
    rintro _ o6 rfl
    nofun
    repeat eq_refl
    refine wf_mono (S5 c _ (by rw [icb.len]; simp [toldBox])) ?_
    rintro _ o7 rfl
    nofun
    repeat eq_refl
    refine ⟨rfl, fun _ => rfl, fun _ => ?_⟩
    repeat eq_refl
    exact ⟨rfl, rfl⟩
  rw [show (bagsOf g).filter (fun c => liesIn c (toldBox h c)) = lastingOf h g from rfl]
  nofun
  repeat eq_refl
  nofun
  refine we_lcif (lastingOf h g) boxD isPoint boxD ?_
  repeat eq_refl
  nofun
  refine ⟨rfl, fun c hc => ?_, ?_⟩
  · nofun
    repeat eq_refl
    refine wf_mono (S7 c) ?_
    rintro _ o6 rfl
    nofun
    repeat eq_refl
    refine ⟨rfl, fun _ => rfl, fun _ => ?_⟩
    repeat eq_refl
    exact ⟨rfl, rfl⟩
  repeat eq_refl
  refine ⟨_, rfl, ?_⟩
  nofun
  have hlast : ∀ c ∈ lastingOf h g, IsBox h c := fun c hc => ((mem_lasting G.box c).mp hc).1
  refine wss_for (List.range h.length) ic (fun don ρ => ∃ (x8 : Option SV), ρ = [some (.dat hd), some (.dat (boxD b)), some (.dat v2.d), some (.own none (.list [lsD hd, lsD (boxD b)])), some (.dat (.list ((bagsOf g).map boxD))), some (.dat (.list ((lastingOf h g).map boxD))), some (.own none (.list ((don.filter fun j => !decide (((lastingOf h g).filter fun c => decide (1 < (partAt c j).length)) = [])).map ic))), some (.own none (.list (((lastingOf h g).filter isPoint).map boxD))), x8, none, none, none, none]) ?_
  repeat eq_refl
  refine pw_len hds ?_
  rewrite [hdl]
  repeat eq_refl
  refine ⟨rfl, ⟨_, rfl⟩, ?_, ?_⟩
  · rintro don j rest _ e ⟨x8, rfl⟩
    obtain ⟨e3, e4⟩ := range_split e
    have hdl : don.length = j := by rw [e3]; simp
    repeat eq_refl
    nofun
    refine we_lcif (lastingOf h g) boxD (fun c => decide (1 < (partAt c j).length)) boxD ?_
    repeat eq_refl
    refine ⟨rfl, fun c hc => ?_, ?_⟩
    · have ic := hlast c hc
      have hj' : j < c.length := by rw [ic.len]; exact e4
      nofun
      repeat eq_refl
      refine pw_idx rfl (y := rowD (partAt c j)) (by rw [List.getElem?_map, List.getElem?_eq_getElem hj']; simp [partAt, List.getElem?_eq_getElem hj']) ?_
      repeat eq_refl
      rw [List.length_map, int_nat_lt]
      refine ⟨rfl, fun _ => rfl, fun _ => ?_⟩
      repeat eq_refl
      exact ⟨rfl, rfl⟩
    · repeat eq_refl
      refine pw_ne (shaped_bags _) shaped_nil (eqvL_nil boxD _) ?_
      repeat eq_refl
      refine ⟨fun ht => ?_, fun ht => ?_⟩
      · repeat eq_refl
        refine lw_of (by rw [List.length_map]; have := List.length_filter_le (fun j => !decide (((lastingOf h g).filter fun c => decide (1 < (partAt c j).length)) = [])) don; omega) ?_
        repeat eq_refl
        nofun
        refine ⟨rfl, some (.dat (ic j)), ?_⟩
        rw [List.filter_append, List.filter_cons, if_pos ht, List.filter_nil, List.map_append]
        rfl
      · repeat eq_refl
        refine ⟨rfl, some (.dat (ic j)), ?_⟩
        rw [List.filter_append, List.filter_cons, if_neg (by rw [ht]; decide), List.filter_nil, List.append_nil]
  rintro _ ⟨x8, rfl⟩
  rw [show (List.range h.length).filter (fun j => !decide (((lastingOf h g).filter fun c => decide (1 < (partAt c j).length)) = [])) = swingOf h (lastingOf h g) from rfl]
  obtain ⟨g1, l, G1, L, R1⟩ := S8 _ _ h b w h3 hh (box_seq b) ib
  cases grown_unique G G1
  obtain ⟨g2, l2, G2, L2, R2⟩ := S9 _ _ h b w h3 hh (box_seq b) ib
  cases grown_unique G G2
  cases limit_unique L L2
  obtain ⟨g3, l3, G3, L3, R3⟩ := S10 _ _ h b w h3 hh (box_seq b) ib
  cases grown_unique G G3
  cases limit_unique L L3
  obtain ⟨g4, l4, G4, L4, R4⟩ := S8 _ _ h b w h3 (H.lists) (box_lists b) ib
  cases grown_unique G G4
  cases limit_unique L L4
  obtain ⟨g5, l5, G5, L5, R5⟩ := S9 _ _ h b w h3 (H.lists) (box_lists b) ib
  cases grown_unique G G5
  cases limit_unique L L5
  obtain ⟨g6, l6, G6, L6, R6⟩ := S10 _ _ h b w h3 (H.lists) (box_lists b) ib
  cases grown_unique G G6
  cases limit_unique L L6
  rw [swing_eq G.box L]
  have hpt := pt_iff L.box
  have laySoft : PyData.canLay0 (.list [lsD hd, lsD (boxD b)]) = true ∧ PyData.depth (.list [lsD hd, lsD (boxD b)]) ≤ 5 := by
    have := lay_ls _ lay2.1
    rw [ls_two] at this
    exact ⟨this.1, by rw [this.2]; exact lay2.2⟩
  have layPt : PyData.canLay0 (ptD l) = true ∧ PyData.depth (ptD l) ≤ 2 := by
    unfold ptD
    split
    · exact lay_r _
    · exact ⟨rfl, by simp [PyData.depth]⟩
  have layB : ∀ t : Bool, PyData.canLay0 (.bool t) = true ∧ PyData.depth (.bool t) ≤ 2 := fun t => ⟨rfl, by simp [PyData.depth]⟩
  have layAll : PyData.canLay0 (.list [.bool (isPt l), ptD l, rowD (wideOf l), .bool (isPt l), ptD l, rowD (wideOf l), .list [lsD hd, lsD (boxD b)]]) = true ∧ PyData.depth (.list [.bool (isPt l), ptD l, rowD (wideOf l), .bool (isPt l), ptD l, rowD (wideOf l), .list [lsD hd, lsD (boxD b)]]) ≤ 6 := by
    refine lay_list ?_
    have := lay_all (f := id) (l := [.bool (isPt l), ptD l, rowD (wideOf l), .bool (isPt l), ptD l, rowD (wideOf l), .list [lsD hd, lsD (boxD b)]]) (k := 5) fun x hx => by
      simp only [List.mem_cons, List.not_mem_nil, or_false] at hx
      rcases hx with rfl | rfl | rfl | rfl | rfl | rfl | rfl
      · exact lay_le (layB _) (by decide)
      · exact lay_le layPt (by decide)
      · exact lay_le (lay_r _) (by decide)
      · exact lay_le (layB _) (by decide)
      · exact lay_le layPt (by decide)
      · exact lay_le (lay_r _) (by decide)
      · exact laySoft
    simpa using this
  have fin : ∀ (xs12 : Option SV), WSs φ (c__law_case_right.body.drop 6) [some (.dat hd), some (.dat (boxD b)), some (.dat v2.d), some (.own none (.list [lsD hd, lsD (boxD b)])), some (.dat (.list ((bagsOf g).map boxD))), some (.dat (.list ((lastingOf h g).map boxD))), some (.own none (.list ((wideOf l).map ic))), some (.own none (.list (((lastingOf h g).filter isPoint).map boxD))), x8, some (.dat (ptD l)), none, none, xs12] (EndQ fun v _ => v = .dat (.bool true)) := by
    intro xs12
    show WSs φ [_, _, _, _] _ _
    repeat eq_refl
    refine wf_mono (wf_rets R1) ?_
    rintro u1 p1 hu1
    nofun
    rw [hu1]
    repeat eq_refl
    refine wf_mono (wf_rets R2) ?_
    rintro u2 p2 hu2
    nofun
    rw [hu2]
    repeat eq_refl
    refine wf_mono (wf_rets R3) ?_
    rintro u3 p3 hu3
    nofun
    rw [hu3]
    repeat eq_refl
    nofun
    repeat eq_refl
    refine wf_mono (wf_rets R4) ?_
    rintro u4 p4 hu4
    nofun
    rw [hu4]
    repeat eq_refl
    refine wf_mono (wf_rets R5) ?_
    rintro u5 p5 hu5
    nofun
    rw [hu5]
    repeat eq_refl
    refine wf_mono (wf_rets R6) ?_
    rintro u6 p6 hu6
    nofun
    rw [hu6]
    repeat eq_refl
    nofun
    repeat eq_refl
    refine pw_addL (Nat.le_of_ble_eq_true rfl) ?_
    repeat eq_refl
    nofun
    repeat eq_refl
    refine pw_eqL ?_
    rw [← hpt]
    repeat eq_refl
    refine pw_mulL (k := 2) (by decide) (Nat.le_of_ble_eq_true rfl) ?_
    repeat eq_refl
    refine wf_mono (S2 _ lay2.1 (Nat.lt_of_le_of_lt lay2.2 (by decide))) ?_
    rintro _ p7 rfl
    nofun
    repeat eq_refl
    refine pw_addL (Nat.le_of_ble_eq_true rfl) ?_
    repeat eq_refl
    nofun
    repeat eq_refl
    nofun
    refine wf_mono (S11 (.list [.bool (isPt l), ptD l, rowD (wideOf l), .bool (isPt l), ptD l, rowD (wideOf l), .list [lsD hd, lsD (boxD b)]]) layAll.1 (Nat.lt_of_le_of_lt layAll.2 (by decide))) ?_
    rintro _ p8 rfl
    nofun
    repeat eq_refl
    refine pw_neL ?_
    repeat eq_refl
    refine ⟨fun ht => ?_, fun ht => ?_⟩
    · refine endq_ret ?_
      rw [ht]
    · have hw : wideOf l = [] := by simpa using ht
      rw [points_eq G.box L hw]
      repeat eq_refl
      refine pw_eqI ?_
      repeat eq_refl
  refine we_prim ?_
  repeat eq_refl
  refine pw_eqL ?_
  repeat eq_refl
  refine ⟨fun ht => ?_, fun ht => ?_⟩
  · have hw : wideOf l = [] := by simpa using ht
    have hp : isPt l = true := by rw [hpt]; exact ht
    have hpe : ptD l = rowD (l.map fun s => s.headD 0) := by simp [ptD, hp]
    have hpl := points_eq G.box L hw
    have fin2 := fin none
    rw [hpl, hpe] at fin2
    rw [hpl]
    repeat eq_refl
    nofun
    refine we_lc l rowD (fun s => ic (s.headD 0)) ?_
    repeat eq_refl
    refine ⟨rfl, fun s hs => ?_, ?_⟩
    · have h1 : s.length = 1 := by
        have := List.all_eq_true.mp hp s hs
        simpa using this
      obtain ⟨x, rfl⟩ : ∃ x, s = [x] := List.length_eq_one_iff.mp h1
      nofun
      repeat eq_refl
      exact ⟨rfl, rfl⟩
    · refine wo_nil (rw_inr (rw_nil (pw_tuple rfl ?_)))
      nofun
      have e : (l.map fun s => ic (s.headD 0)) = (l.map fun s => s.headD 0).map ic := by rw [List.map_map]; rfl
      rewrite [e]
      exact fin2
  · have hpe : ptD l = .none := by
      have hp : isPt l = false := by rw [hpt]; exact ht
      simp [ptD, hp]
    have fin2 := fin none
    rewrite [hpe] at fin2
    refine we_cst ?_
    exact fin2
end K10

set_option Elab.async false
set_option linter.all false
set_option autoImplicit false
set_option maxRecDepth 100000
set_option maxHeartbeats 40000000
namespace K10
open PySem LI
local macro_rules | `(tactic| eq_refl) => `(tactic| first
  | refine we_cst ?_ | refine we_prim ?_ | refine we_var rfl ?_ | refine we_varo rfl ?_ | refine wo_var rfl ?_ | refine wo_cons rfl ?_ | refine wo_nil ?_
  | refine rw_inr ?_ | refine rw_dat rfl ?_ | refine rw_own rfl ?_ | refine rw_nil ?_
  | refine pw_idxc rfl rfl ?_ | refine pw_add ?_ | refine pw_sub ?_ | refine pw_neg ?_ | refine pw_lt ?_ | refine pw_le ?_ | refine pw_gt ?_ | refine pw_ge ?_ | refine pw_int ?_ | refine pw_intb ?_ | refine pw_abs ?_ | refine pw_min2 ?_ | refine pw_isnone ?_ | refine pw_notnone ?_ | refine pw_len rfl ?_ | refine pw_tuple rfl ?_ | refine pw_list rfl ?_ | refine pw_isi rfl ?_
  | refine pw_mod (by first | decide | omega) ?_ | refine pw_fdiv (by first | decide | omega) (by first | decide | omega) ?_ | refine pw_mulr (by first | decide | omega) (by first | decide | omega) ?_ | refine pw_mull (by first | decide | omega) (by first | decide | omega) ?_
  | refine wa_plain ?_ | refine wa_nil ?_ | refine wa_false ?_ | refine wa_lend rfl ?_ | refine wa_dat rfl ?_ | refine wa_true rfl ?_ | refine bk_none ?_
  | refine sw_of rfl ?_ | refine nw_of (by omega) ?_ | refine xw_of rfl rfl rfl ?_ | refine ow_of rfl ?_ | refine dw_of rfl ?_ | refine lw_of (Nat.le_of_ble_eq_true rfl) ?_
  | refine wl_nil ?_ | refine wl_star ?_ | refine wl_cons rfl ?_ | refine wv_nil ?_ | refine wv_cons ?_
  | refine we_call ?_ | refine we_tup ?_ | refine we_lst ?_ | refine we_and ?_ | refine we_or ?_ | refine we_not ?_ | refine we_ite ?_ | refine we_sl2 ?_ | refine we_popAt rfl ?_
  | refine tw_bool ?_ | refine tw_list ?_ | refine tw_tuple ?_ | refine tw_int ?_ | refine tw_none ?_ | refine wc_none ?_ | refine wc_some ?_ | refine wt_of ?_
  | refine ts_one ?_ | refine ts_two ?_ | refine ts_three ?_ | refine wi_seq ?_ | refine wi_enum ?_ | refine wi_zip ?_ | refine wi_rng1 ?_
  | refine own_ok rfl ?_ | refine endq_ret ?_ | refine endq_nx ?_ | refine go_nx ?_ | refine go_ret ?_ | refine go_true ?_ | refine go_false ?_
  | refine wss_asg ?_ | refine wss_pasg ?_ | refine wss_uasg ?_ | refine wss_seti ?_ | refine wss_app rfl ?_ | refine wss_expr ?_ | refine wss_ite ?_ | refine wss_retd rfl ?_ | refine wss_reto rfl ?_ | refine wss_ret rfl ?_ | refine wss_retN ?_ | refine wss_nil ?_)
local macro_rules | `(tactic| nofun) => `(tactic| try dsimp only [List.set_cons_succ, List.set_cons_zero, setV_dat, setV_own, sv_dat, sv_own, wipeR, restR, giveB, upB, Option.map_some, Option.map_none, List.getElem?_cons_succ, List.getElem?_cons_zero, Option.getD_some])

/-! ### every def at every depth beyond its own -/
def At (pg : List (Str × FnD)) (k : Nat) (P : Fn → Prop) : Prop := ∀ n, k ≤ n → P (phi pg n)
theorem At.le {pg : List (Str × FnD)} {k m : Nat} {P : Fn → Prop} (h : At pg k P) (l : k ≤ m) : At pg m P := fun n hn => h n (Nat.le_trans l hn)
theorem at_step {pg : List (Str × FnD)} {k : Nat} {P : Fn → Prop} (h : ∀ n, k ≤ n → P (phi pg (n + 1))) : At pg (k + 1) P := fun n hn => by
  obtain ⟨m, rfl⟩ : ∃ m, n = m + 1 := ⟨n - 1, by omega⟩
  exact h m (by omega)
theorem rets_phi {pg : List (Str × FnD)} {n : Nat} {f : Str} {c : FnD} {as : List SV} {d : PyData} (h : pg.lookup f = some c) (q : Runs (phi pg n) c as d) : Rets (phi pg (n + 1)) f as d := by
  unfold Rets Runs at *
  simp only [phi, h, Option.bind_some]
  exact q
section
variable {pg : List (Str × FnD)}
theorem at_sizes (L : pg.lookup ("sizes_of" : Str) = some c_sizes_of) : At pg 1 SpSizes := at_step fun n _ hd pd h ps a b c => rets_phi L (run_sizes a b c)
theorem at_set (L : pg.lookup ("set_of" : Str) = some c_set_of) : At pg 1 SpSet := at_step fun n _ d xs a b c => rets_phi L (run_set_of a b c)
theorem at_rowsA (L : pg.lookup ("rows_among" : Str) = some c_rows_among) : At pg 1 SpRows := at_step fun n _ sd sets a b c => rets_phi L (run_rows_among a b c)
theorem at_table (L : pg.lookup ("table_at" : Str) = some c_table_at) (S : At pg 1 SpSizes) : At pg 2 SpTable := at_step fun n hn hd rd h p row a b c d e => rets_phi L (run_table (S n hn) a b c d e)
theorem at_inside (L : pg.lookup ("rows_inside" : Str) = some c_rows_inside) (S : At pg 1 SpRows) : At pg 2 SpInside := at_step fun n hn hd bd h b p a b' c d e => rets_phi L (run_rows_inside (S n hn) a b' c d e)
theorem at_part (L : pg.lookup ("told_part" : Str) = some c_told_part) (S1 : At pg 2 SpInside) (S2 : At pg 2 SpTable) (S3 : At pg 1 SpSet) : At pg 3 SpPart := at_step fun n hn hd bd h b p a b' c d e f => rets_phi L (run_told_part (S1 n hn) (S2 n hn) (S3 n (by omega)) a b' c d e f)
theorem at_told (L : pg.lookup ("told_box" : Str) = some c_told_box) (S : At pg 3 SpPart) : At pg 4 SpTold := at_step fun n hn hd bd h b a b' c d e => rets_phi L (run_told_box (S n hn) a b' c d e)
theorem at_tupI (L : pg.lookup ("tupled" : Str) = some c_tupled) : At pg 1 fun φ => ∀ x : Nat, Rets φ "tupled" [.dat (ic x)] (ic x) := at_step fun n _ x => rets_phi L (run_tup_int x)
theorem at_tupR (L : pg.lookup ("tupled" : Str) = some c_tupled) : At pg 2 SpTupRow := at_step fun n hn d xs h => rets_phi L (run_tup_row (at_tupI L n hn) h)
theorem at_tupB (L : pg.lookup ("tupled" : Str) = some c_tupled) : At pg 3 SpTupBox := at_step fun n hn d b h => rets_phi L (run_tup_box (at_tupR L n hn) h)
theorem at_laps (L : pg.lookup ("laps_grown" : Str) = some c_laps_grown) (S0 : At pg 3 SpTupBox) (S1 : At pg 3 SpPart) (S2 : At pg 1 SpSet) : At pg 4 SpLaps := at_step fun n hn hd bd h b w h3 hh hb i => by
  obtain ⟨k, h1, h2⟩ := run_laps (S0 n hn) (S1 n hn) (S2 n (by omega)) w h3 hh hb i
  exact ⟨k, h1, rets_phi L h2⟩
theorem at_grown (L : pg.lookup ("grown" : Str) = some c_grown) (S : At pg 4 SpLaps) : At pg 5 SpGrown := at_step fun n hn hd bd h b w h3 hh hb i => by
  obtain ⟨k, h1, h2⟩ := run_grown (S n hn) w h3 hh hb i
  exact ⟨k, h1, rets_phi L h2⟩
theorem at_rounds (L : pg.lookup ("rounds" : Str) = some c_rounds) (S0 : At pg 5 SpGrown) (S : At pg 4 SpTold) : At pg 6 SpRounds := at_step fun n hn hd bd h b w h3 hh hb i => by
  obtain ⟨g, k, h1, h2, h3'⟩ := run_rounds (S0 n hn) (S n (by omega)) w h3 hh hb i
  exact ⟨g, k, h1, h2, rets_phi L h3'⟩
theorem at_limit (L : pg.lookup ("limit" : Str) = some c_limit) (S : At pg 6 SpRounds) : At pg 7 SpLimit := at_step fun n hn hd bd h b w h3 hh hb i => by
  obtain ⟨g, k, h1, h2, h3'⟩ := run_limit (S n hn) w h3 hh hb i
  exact ⟨g, k, h1, h2, rets_phi L h3'⟩
theorem at_point (L : pg.lookup ("point_of" : Str) = some c_point_of) : At pg 1 SpPoint := at_step fun n _ hd b => rets_phi L (run_point b)
theorem at_wide (L : pg.lookup ("wide_places" : Str) = some c_wide_places) : At pg 1 SpWide := at_step fun n _ hd b => rets_phi L (run_wide b)
theorem at_end (L : pg.lookup ("end_from" : Str) = some c_end_from) (S : At pg 7 SpLimit) (P : At pg 1 SpPoint) : At pg 8 SpEnd := at_step fun n hn hd bd h b w h3 hh hb i => by
  obtain ⟨g, k, h1, h2, h3'⟩ := run_end (S n hn) (P n (by omega)) w h3 hh hb i
  exact ⟨g, k, h1, h2, rets_phi L h3'⟩
theorem at_swing (L : pg.lookup ("swinging" : Str) = some c_swinging) (S : At pg 7 SpLimit) (P : At pg 1 SpWide) : At pg 8 SpSwing := at_step fun n hn hd bd h b w h3 hh hb i => by
  obtain ⟨g, k, h1, h2, h3'⟩ := run_swinging (S n hn) (P n (by omega)) w h3 hh hb i
  exact ⟨g, k, h1, h2, rets_phi L h3'⟩
theorem at_settles (L : pg.lookup ("settles" : Str) = some c_settles) (S : At pg 8 SpEnd) : At pg 9 SpSettles := at_step fun n hn hd bd h b w h3 hh hb i => by
  obtain ⟨g, k, h1, h2, h3'⟩ := run_settles (S n hn) w h3 hh hb i
  exact ⟨g, k, h1, h2, rets_phi L h3'⟩
/- the law's own -/
theorem at_take (L : pg.lookup ("_law_take" : Str) = some c__law_take) : At pg 1 SpTake := at_step fun n _ d m k a b c e => wf_phi L (wr_take a b c e)
theorem at_of (L : pg.lookup ("_law_of" : Str) = some c__law_of) (S : At pg 1 SpTake) : At pg 2 SpOf := at_step fun n hn d g xs m a b c e f => wf_phi L (wr_of_ (S n hn) a b c e f)
theorem at_pick (L : pg.lookup ("_law_pick" : Str) = some c__law_pick) (S : At pg 1 SpTake) : At pg 2 SpPick := at_step fun n hn d g xs m k a b c e => wf_phi L (wr_pick (S n hn) a b c e)
def SpHall (φ : Fn) : Prop := ∀ (d : PyData) (m many most : Nat), TinR d m → many ≤ 16 → 1 ≤ most → most ≤ 3 → m + 300 ≤ 100000 → WF φ "_law_hall" [.own none d, .dat (ic many), .dat (ic most)] fun v o => ∃ h, v = .dat (houseT h) ∧ h.length = many ∧ HouseOk h ∧ TinOut o (m + 13 * many)
theorem at_hall (L : pg.lookup ("_law_hall" : Str) = some c__law_hall) (S : At pg 1 SpTake) (S1 : At pg 2 SpOf) (S2 : At pg 2 SpPick) : At pg 3 SpHall := at_step fun n hn d m k l a b c e f => wf_phi L (wr_hall (S n (by omega)) (S1 n hn) (S2 n hn) a b c e f)
theorem at_spot (L : pg.lookup ("_law_spot" : Str) = some c__law_spot) (S : At pg 1 SpTake) : At pg 2 SpSpot := at_step fun n hn d hd h m a b c e => wf_phi L (wr_spot (S n hn) a b c e)
theorem at_start (L : pg.lookup ("_law_start" : Str) = some c__law_start) (S : At pg 1 SpTake) (S2 : At pg 2 SpSpot) : At pg 3 SpStart := at_step fun n hn d hd h m a b c e f => wf_phi L (wr_start (S n (by omega)) (S2 n hn) a b c e f)
def SpBag (φ : Fn) : Prop := ∀ (d hd : PyData) (h : List Fd) (m : Nat), TinR d m → HouseR hd h → (∀ f ∈ h, 1 ≤ f.n ∧ f.n ≤ 16) → h.length ≤ 16 → m + 300 ≤ 100000 → WF φ "_law_bag" [.own none d, .dat hd] fun v o => ∃ b, v = .dat (boxD b) ∧ IsBox h b ∧ TinOut o (m + h.length + 16 * h.length)
theorem at_bag (L : pg.lookup ("_law_bag" : Str) = some c__law_bag) (S : At pg 3 SpStart) : At pg 4 SpBag := at_step fun n hn d hd h m a b c e f => wf_phi L (wr_bag (S n hn) a b c e f)
theorem at_lists (L : pg.lookup ("_law_lists" : Str) = some c__law_lists) : At pg 20 SpLists := fun n hn d a b => wf_lists L n d a (by omega)
theorem at_same (L : pg.lookup ("_law_same" : Str) = some c__law_same) : At pg 20 SpSame := fun n hn d a b => wf_same L n d a (by omega)
theorem at_rowsL (L : pg.lookup ("_law_rows" : Str) = some c__law_rows) : At pg 1 SpRowsL := at_step fun n _ sd sz a b c => wf_phi L (wr_rows a b c)
theorem at_sizesL (L : pg.lookup ("_law_sizes" : Str) = some c__law_sizes) : At pg 1 SpSizesL := at_step fun n _ hd pd h ps a b c => wf_phi L (wr_sizes a b c)
theorem at_spots (L : pg.lookup ("_law_spots" : Str) = some c__law_spots) : At pg 1 SpSpots := at_step fun n _ sd sz a b c => wf_phi L (wr_spots a b c)
theorem at_both (L : pg.lookup ("_law_both" : Str) = some c__law_both) : At pg 1 SpBoth := at_step fun n _ h a b w x y => wf_phi L (wr_both w x y)
theorem at_lies (L : pg.lookup ("_law_lies" : Str) = some c__law_lies) : At pg 1 SpLies := at_step fun n _ a b h => wf_phi L (wr_lies h)
theorem at_isp (L : pg.lookup ("_law_is_point" : Str) = some c__law_is_point) : At pg 1 SpIsPoint := at_step fun n _ b => wf_phi L wr_is_point
theorem at_bags (L : pg.lookup ("_law_bags" : Str) = some c__law_bags) : At pg 1 SpBags := at_step fun n _ b h1 h2 => wf_phi L (wr_bags h1 h2)
theorem at_maps (L : pg.lookup ("_law_maps" : Str) = some c__law_maps) (S1 : At pg 1 SpRowsL) (S2 : At pg 1 SpSizesL) : At pg 2 SpMaps := at_step fun n hn hd h w hh => wf_phi L (wr_maps (S1 n hn) (S2 n hn) w hh)
theorem at_say (L : pg.lookup ("_law_say" : Str) = some c__law_say) (S : At pg 1 SpSpots) : At pg 2 SpSay := at_step fun n hn hd md h b w h3 hh hm i => wf_phi L (wr_say (S n hn) w h3 hh hm i)
theorem at_grow (L : pg.lookup ("_law_grow" : Str) = some c__law_grow) (S1 : At pg 2 SpSay) (S2 : At pg 1 SpBoth) : At pg 3 SpGrowL := at_step fun n hn hd md h b w h3 hh hm i => wf_phi L (wr_grow (S1 n hn) (S2 n (by omega)) w h3 hh hm i)
def SpCase (φ : Fn) : Prop := ∀ (hd : PyData) (h : List Fd) (b : List (List Nat)), HouseD hd h → HouseOk h → h.length ≤ 4 → IsBox h b → WF φ "_law_case_right" [.dat hd, .dat (boxD b)] fun v _ => v = .dat (.bool true)
/- the law -/
theorem wr_right {φ : Fn} (S : SpTake φ) (S1 : SpHall φ) (S2 : SpBag φ) (S3 : SpCase φ) {d : PyData} (ht : TinR d 0) : WR φ c__law_right [.own none d] fun v _ => v = .dat (.bool true) := by
  refine wr_of rfl ?_
  show WSs φ [_, _] [some (.own (some 0) d), none, none] _
  repeat eq_refl
  refine wf_take S (n := 3) ht (by omega) (by omega) (by omega) fun r d1 o hr ht1 ho => ?_
  rewrite [giveB_own ho]
  repeat eq_refl
  refine wf_mono (S1 d1 _ (1 + r) 3 ht1 (by omega) (by omega) (by omega) (by omega)) ?_
  rintro _ o2 ⟨h, rfl, hl, ok, d2, ht2, ho2⟩
  rewrite [giveB_own ho2]
  nofun
  refine wss_ret rfl ?_
  refine we_prim ?_
  refine wo_cons rfl ?_
  refine we_lcI (List.range 2) ic (fun don acc ρ => ∃ (d' : PyData) (x2 : Option SV), ρ = [some (.own (some 0) d'), some (.dat (houseT h)), x2] ∧ acc = don.map (fun _ => .bool true) ∧ TinR d' (100 + 100 * don.length)) ?_
  refine wi_rng1 (we_cst ?_)
  refine nw_lit (n := 2) rfl (by omega) ?_
  refine ⟨rfl, ⟨d2, none, rfl, rfl, ht2.le (by omega)⟩, ?_, ?_⟩
  · rintro don a rest acc _ e ⟨d', x2, rfl, rfl, h1⟩
    obtain ⟨e1, e2⟩ := range_split e
    have hdl : don.length = a := by rw [e1]; simp
    nofun
    repeat eq_refl
    refine wf_mono (S2 d' _ h _ h1 (house_rel ok) (fun f hf => ⟨(ok.n1 f hf).1, by have := (ok.n1 f hf).2; omega⟩) (by omega) (by omega)) ?_
    rintro _ o3 ⟨b, rfl, ib, d3, ht3, ho3⟩
    rewrite [giveB_own ho3]
    nofun
    repeat eq_refl
    refine wf_mono (S3 _ h b (house_data ok) ok (by omega) ib) ?_
    rintro _ o4 rfl
    nofun
    refine ⟨d3, _, rfl, by simp, ht3.le ?_⟩
    rw [List.length_append, List.length_singleton]
    omega
  · rintro acc _ ⟨d', x2, rfl, rfl, h1⟩
    nofun
    repeat eq_refl
    refine pw_all (l := List.range 2) (f := fun _ => true) ?_
    repeat eq_refl
def SpRight (φ : Fn) : Prop := ∀ d : PyData, TinR d 0 → WF φ "_law_right" [.own none d] fun v _ => v = .dat (.bool true)
def SpCells (φ : Fn) : Prop := ∀ (ns : List Int) (k : Nat), 1 ≤ k → k ≤ 16 → WF φ "_law_cells" [.dat (scrD ns), .dat (ic k)] fun v _ => ∃ cs : List Int, v = .own none (.list (cs.map .int)) ∧ 1 ≤ cs.length ∧ cs.length ≤ k
def SpBoxL (φ : Fn) : Prop := ∀ (cs : List Int) (k : Nat), k < cs.length → k ≤ 1000 → WF φ "_law_box" [.dat (.list (cs.map .int)), .dat (ic k)] fun v _ => ∃ d, v = .own none d ∧ TinR d 0
theorem wr_law {φ : Fn} (S0 : WF φ "_law_by_hand_right" [] fun v _ => v = .dat (.bool true)) (S1 : SpCells φ) (S2 : SpBoxL φ) (S3 : SpRight φ) (ns : List Int) : WR φ c_law [.dat (scrD ns)] fun v _ => v = .dat (.bool true) := by
  refine wr_of rfl ?_
  show WSs φ [_, _, _] [some (.dat (scrD ns)), none, none] _
  repeat eq_refl
  refine wf_mono S0 ?_
  rintro _ o rfl
  nofun
  repeat eq_refl
  refine wf_mono (S1 ns 2 (by omega) (by omega)) ?_
  rintro _ o2 ⟨cs, rfl, c1, c2⟩
  nofun
  refine wss_ret rfl ?_
  refine we_prim ?_
  refine wo_cons rfl ?_
  refine we_lcI (List.range cs.length) ic (fun don acc ρ => ∃ (v1 : SV) (x2 : Option SV), ρ = [some (.dat (scrD ns)), some v1, x2] ∧ v1.d = .list (cs.map .int) ∧ acc = don.map (fun _ => .bool true)) ?_
  repeat eq_refl
  refine nw_of (by simp; omega) ?_
  rewrite [List.length_map]
  refine ⟨rfl, ⟨_, none, rfl, rfl, rfl⟩, ?_, ?_⟩
  · rintro don a rest acc _ e ⟨v1, x2, rfl, h1, rfl⟩
    obtain ⟨e1, e2⟩ := range_split e
    nofun
    repeat eq_refl
    refine we_varx rfl ?_
    rewrite [h1]
    nofun
    repeat eq_refl
    refine wf_mono (S2 cs a e2 (by omega)) ?_
    rintro _ o3 ⟨d, rfl, hd⟩
    nofun
    repeat eq_refl
    refine wf_mono (S3 d hd) ?_
    rintro _ o4 rfl
    nofun
    exact ⟨_, _, rfl, rfl, by simp⟩
  · rintro acc _ ⟨v1, x2, rfl, h1, rfl⟩
    nofun
    repeat eq_refl
    refine pw_all (l := List.range cs.length) (f := fun _ => true) ?_
    repeat eq_refl
    simp
end
end K10

set_option Elab.async false
set_option linter.all false
set_option autoImplicit false
set_option maxRecDepth 1000000
set_option maxHeartbeats 0
namespace K10
open PySem LI
local macro_rules | `(tactic| eq_refl) => `(tactic| first
  | refine we_cst ?_ | refine we_prim ?_ | refine we_var rfl ?_ | refine we_varo rfl ?_ | refine wo_var rfl ?_ | refine wo_cons rfl ?_ | refine wo_nil ?_
  | refine rw_inr ?_ | refine rw_dat rfl ?_ | refine rw_own rfl ?_ | refine rw_nil ?_
  | refine pw_idxc rfl rfl ?_ | refine pw_add ?_ | refine pw_sub ?_ | refine pw_neg ?_ | refine pw_lt ?_ | refine pw_le ?_ | refine pw_gt ?_ | refine pw_ge ?_ | refine pw_int ?_ | refine pw_intb ?_ | refine pw_abs ?_ | refine pw_min2 ?_ | refine pw_isnone ?_ | refine pw_notnone ?_ | refine pw_len rfl ?_ | refine pw_tuple rfl ?_ | refine pw_list rfl ?_ | refine pw_isi rfl ?_
  | refine pw_mod (by first | decide | omega) ?_ | refine pw_fdiv (by first | decide | omega) (by first | decide | omega) ?_ | refine pw_mulr (by first | decide | omega) (by first | decide | omega) ?_ | refine pw_mull (by first | decide | omega) (by first | decide | omega) ?_
  | refine wa_plain ?_ | refine wa_nil ?_ | refine wa_false ?_ | refine wa_lend rfl ?_ | refine wa_dat rfl ?_ | refine wa_true rfl ?_ | refine bk_none ?_
  | refine sw_of rfl ?_ | refine nw_of (by omega) ?_ | refine xw_of rfl rfl rfl ?_ | refine ow_of rfl ?_ | refine dw_of rfl ?_ | refine lw_of (Nat.le_of_ble_eq_true rfl) ?_
  | refine wl_nil ?_ | refine wl_star ?_ | refine wl_cons rfl ?_ | refine wv_nil ?_ | refine wv_cons ?_
  | refine we_call ?_ | refine we_callk ?_ | refine we_tup ?_ | refine we_lst ?_ | refine we_and ?_ | refine we_or ?_ | refine we_not ?_ | refine we_ite ?_ | refine we_sl2 ?_ | refine we_popAt rfl ?_
  | refine tw_bool ?_ | refine tw_list ?_ | refine tw_tuple ?_ | refine tw_int ?_ | refine tw_none ?_ | refine wc_none ?_ | refine wc_some ?_ | refine wt_of ?_
  | refine ts_one ?_ | refine ts_two ?_ | refine ts_three ?_ | refine wi_seq ?_ | refine wi_enum ?_ | refine wi_zip ?_ | refine wi_rng1 ?_
  | refine own_ok rfl ?_ | refine endq_ret ?_ | refine endq_nx ?_ | refine go_nx ?_ | refine go_ret ?_ | refine go_true ?_ | refine go_false ?_
  | refine wss_asg ?_ | refine wss_pasg ?_ | refine wss_uasg ?_ | refine wss_seti ?_ | refine wss_app rfl ?_ | refine wss_expr ?_ | refine wss_ite ?_ | refine wss_retd rfl ?_ | refine wss_reto rfl ?_ | refine wss_ret rfl ?_ | refine wss_retN ?_ | refine wss_nil ?_)
local macro_rules | `(tactic| nofun) => `(tactic| try dsimp only [List.set_cons_succ, List.set_cons_zero, setV_dat, setV_own, sv_dat, sv_own, wipeR, restR, giveB, upB, Option.map_some, Option.map_none, List.getElem?_cons_succ, List.getElem?_cons_zero, Option.getD_some])

/-! ### houses given by hand -/
def fdN (q : List Str × Fd) : PyData := .tuple [.tuple (q.1.map .str), rowD q.2.eyes, rowD q.2.tab]
def houseN (l : List (List Str × Fd)) : PyData := .tuple (l.map fdN)
theorem houseN_data {l : List (List Str × Fd)} (h : ∀ q ∈ l, q.1.length = q.2.n ∧ ∀ s ∈ q.1, PyData.strOk s = true) : HouseD (houseN l) (l.map (·.2)) := by
  refine ⟨⟨l.map fdN, rfl, ?_⟩, ⟨(l.map fdN).map lsD, by simp [houseN, lsD, lsDs_map], ?_⟩, ?_⟩
  · exact all2_map (R := FdR) fdN (·.2) l fun q hq => ⟨.tuple (q.1.map .str), rowD q.2.eyes, rowD q.2.tab, q.1.map .str, rfl, rfl, by simpa using (h q hq).1, row_seq _, row_seq _⟩
  · rw [List.map_map]
    refine all2_map (R := FdR) (lsD ∘ fdN) (·.2) l fun q hq => ⟨lsD (.tuple (q.1.map .str)), lsD (rowD q.2.eyes), lsD (rowD q.2.tab), (q.1.map PyData.str).map lsD, ?_, ?_, ?_, ?_, ?_⟩
    · simp [fdN, lsD, lsDs]
    · simp [lsD, lsDs_map]
    · simpa using (h q hq).1
    · rw [ls_row]; rfl
    · rw [ls_row]; rfl
  · refine lay_tuple (lay_all fun q hq => lay_tuple ?_)
    have := lay_all (f := id) (l := [.tuple (q.1.map .str), rowD q.2.eyes, rowD q.2.tab]) (k := 2) fun x hx => by
      simp only [List.mem_cons, List.not_mem_nil, or_false] at hx
      rcases hx with rfl | rfl | rfl
      · exact lay_tuple (lay_all fun s hs => ⟨by simpa [PyData.canLay0] using (h q hq).2 s hs, by simp [PyData.depth]⟩)
      · exact lay_r _
      · exact lay_r _
    simpa using this
def ny : List Str := ["no", "yes"]
def oo : List Str := ["off", "on"]
def fab : List Str := ["free", "ann", "bob"]
def abc : List Str := ["a", "b", "c"]
def n1 : List Str := ["no"]
def hChain : List (List Str × Fd) := [(ny, ⟨2, [], [1]⟩), (ny, ⟨2, [0], [0, 1]⟩), (ny, ⟨2, [1], [0, 1]⟩)]
def hSwap : List (List Str × Fd) := [(ny, ⟨2, [1], [0, 1]⟩), (ny, ⟨2, [0], [0, 1]⟩)]
def hLamps : List (List Str × Fd) := [(oo, ⟨2, [], [1]⟩), (oo, ⟨2, [0], [0, 1]⟩), (fab, ⟨3, [1, 2], [0, 0, 0, 1, 1, 2]⟩)]
def hWants : List (List Str × Fd) := [(ny, ⟨2, [1], [1, 0]⟩), (ny, ⟨2, [0], [1, 0]⟩)]
def hKeep : List (List Str × Fd) := [(ny, ⟨2, [0], [0, 1]⟩)]
def hOne : List (List Str × Fd) := [(n1, ⟨1, [0], [0]⟩), (abc, ⟨3, [0], [2]⟩)]
section
variable {φ : Fn}
theorem wr_chain : WR φ c__law_chain [] fun v _ => v = .dat (houseN hChain) := by
  refine wr_of rfl ?_
  show WSs φ [_, _] [none] _
  repeat eq_refl
theorem wr_swap : WR φ c__law_swap [] fun v _ => v = .dat (houseN hSwap) := by
  refine wr_of rfl ?_
  show WSs φ [_] [] _
  repeat eq_refl
theorem wr_lamps : WR φ c__law_lamps [] fun v _ => v = .dat (houseN hLamps) := by
  refine wr_of rfl ?_
  show WSs φ [_, _] [none, none] _
  repeat eq_refl
  refine ⟨_, rfl, ?_⟩
  nofun
  repeat eq_refl
theorem wr_swings : WR φ c__law_swings [] fun v _ => v = .dat (houseN hWants) := by
  refine wr_of rfl ?_
  show WSs φ [_] [] _
  repeat eq_refl
end
def hps : List (List (List Str × Fd) × List (List Nat)) :=
  [(hChain, [[0], [0], [0]]), (hChain, [[0, 1], [0, 1], [0, 1]]), (hSwap, [[0], [0]]), (hSwap, [[0], [1]]), (hSwap, [[0, 1], [0]]), (hSwap, [[1], [1]]), (hWants, [[0], [0]]), (hWants, [[0], [1]]), (hKeep, [[0, 1]]), (hKeep, [[1]]), (hLamps, [[0], [0], [0]]), (hLamps, [[0], [0], [0, 2]]), ([], []), (hOne, [[0], [0, 1]])]
def pairD (p : List (List Str × Fd) × List (List Nat)) : PyData := .tuple [houseN p.1, boxD p.2]
def limN (p : List (List Str × Fd) × List (List Nat)) : List (List Nat) := itR (p.1.map (·.2)) (itG (p.1.map (·.2)) p.2 8) 8
def boxB (h : List Fd) (b : List (List Nat)) : Bool := decide (b.length = h.length) && decide (∀ p < h.length, Asc (partAt b p)) && decide (∀ p < h.length, partAt b p ≠ []) && decide (∀ p < h.length, ∀ x ∈ partAt b p, x < szAt h p)
theorem boxB_ok {h : List Fd} {b : List (List Nat)} (e : boxB h b = true) : IsBox h b := by
  simp only [boxB, Bool.and_eq_true, decide_eq_true_eq] at e
  exact ⟨e.1.1.1, e.1.1.2, e.1.2, e.2⟩
def houseB (h : List Fd) : Bool := decide (∀ f ∈ h, 1 ≤ f.n ∧ f.n ≤ 3) && decide (∀ f ∈ h, f.eyes.length ≤ 2 ∧ Asc f.eyes ∧ ∀ e ∈ f.eyes, e < h.length) && decide (∀ f ∈ h, f.tab.length = prodOf (f.eyes.map (szAt h)) ∧ ∀ x ∈ f.tab, x < f.n)
theorem houseB_ok {h : List Fd} (e : houseB h = true) : HouseOk h := by
  simp only [houseB, Bool.and_eq_true, decide_eq_true_eq] at e
  exact ⟨e.1.1, e.1.2, e.2⟩
def nameB (l : List (List Str × Fd)) : Bool := decide (∀ q ∈ l, q.1.length = q.2.n ∧ ∀ s ∈ q.1, PyData.strOk s = true)
def handB (p : List (List Str × Fd) × List (List Nat)) : Bool := houseB (p.1.map (·.2)) && boxB (p.1.map (·.2)) p.2 && nameB p.1 && decide (p.1.length ≤ 4) && decide (itG (p.1.map (·.2)) p.2 9 = itG (p.1.map (·.2)) p.2 8) && decide (itR (p.1.map (·.2)) (itG (p.1.map (·.2)) p.2 8) 9 = itR (p.1.map (·.2)) (itG (p.1.map (·.2)) p.2 8) 8)
theorem hps_ok : ∀ p ∈ hps, handB p = true := by decide +kernel
structure HandOk (p : List (List Str × Fd) × List (List Nat)) : Prop where
  house : HouseD (houseN p.1) (p.1.map (·.2))
  ok : HouseOk (p.1.map (·.2))
  box : IsBox (p.1.map (·.2)) p.2
  few : (p.1.map (·.2)).length ≤ 4
  gr : Grown (p.1.map (·.2)) p.2 (itG (p.1.map (·.2)) p.2 8)
  li : Limit (p.1.map (·.2)) (itG (p.1.map (·.2)) p.2 8) (limN p)
theorem hand_ok {p : List (List Str × Fd) × List (List Nat)} (e : handB p = true) : HandOk p := by
  simp only [handB, Bool.and_eq_true, decide_eq_true_eq, nameB] at e
  obtain ⟨⟨⟨⟨⟨e1, e2⟩, e3⟩, e4⟩, e5⟩, e6⟩ := e
  have ok := houseB_ok e1
  have fw : (p.1.map (·.2)).length ≤ 4 := by rw [List.length_map]; exact e4
  have w := ok_wf ok (by omega)
  have g := grown_of w (boxB_ok e2) e5
  exact ⟨houseN_data e3, ok, boxB_ok e2, fw, g, limit_of w g.box g.shut e6⟩
theorem hand_set {φ : Fn} (S : SpSettles φ) {p : List (List Str × Fd) × List (List Nat)} (o : HandOk p) {hd bd : PyData} (H : HouseR hd (p.1.map (·.2))) (B : BoxR bd p.2) : WF φ "settles" [.dat hd, .dat bd] fun v _ => v.d = .bool (isPt (limN p)) := by
  obtain ⟨g, l, G, L, R⟩ := S hd bd _ _ (ok_wf o.ok (by have := o.few; omega)) (fun f hf => (o.ok.eyes f hf).1) H B o.box
  cases grown_unique G o.gr
  cases limit_unique L o.li
  exact wf_rets R
theorem hand_end {φ : Fn} (S : SpEnd φ) {p : List (List Str × Fd) × List (List Nat)} (o : HandOk p) {hd bd : PyData} (H : HouseR hd (p.1.map (·.2))) (B : BoxR bd p.2) : WF φ "end_from" [.dat hd, .dat bd] fun v _ => v.d = ptD (limN p) := by
  obtain ⟨g, l, G, L, R⟩ := S hd bd _ _ (ok_wf o.ok (by have := o.few; omega)) (fun f hf => (o.ok.eyes f hf).1) H B o.box
  cases grown_unique G o.gr
  cases limit_unique L o.li
  exact wf_rets R
theorem hand_swing {φ : Fn} (S : SpSwing φ) {p : List (List Str × Fd) × List (List Nat)} (o : HandOk p) {hd bd : PyData} (H : HouseR hd (p.1.map (·.2))) (B : BoxR bd p.2) : WF φ "swinging" [.dat hd, .dat bd] fun v _ => v.d = rowD (wideOf (limN p)) := by
  obtain ⟨g, l, G, L, R⟩ := S hd bd _ _ (ok_wf o.ok (by have := o.few; omega)) (fun f hf => (o.ok.eyes f hf).1) H B o.box
  cases grown_unique G o.gr
  cases limit_unique L o.li
  exact wf_rets R
theorem hp_set : hps.map (fun p => PyData.bool (isPt (limN p))) = [.bool true, .bool true, .bool true, .bool false, .bool false, .bool true, .bool false, .bool true, .bool false, .bool true, .bool true, .bool false, .bool true, .bool true] := by kernel_rfl
theorem hp_end : hps.map (fun p => ptD (limN p)) = [.tuple [.int 1, .int 1, .int 1], .tuple [.int 1, .int 1, .int 1], .tuple [.int 0, .int 0], .none, .none, .tuple [.int 1, .int 1], .none, .tuple [.int 0, .int 1], .none, .tuple [.int 1], .tuple [.int 1, .int 1, .int 1], .none, .tuple [], .tuple [.int 0, .int 2]] := by kernel_rfl
theorem hp_swing : hps.map (fun p => rowD (wideOf (limN p))) = [.tuple [], .tuple [], .tuple [], .tuple [.int 0, .int 1], .tuple [.int 0, .int 1], .tuple [], .tuple [.int 0, .int 1], .tuple [], .tuple [.int 0], .tuple [], .tuple [], .tuple [.int 2], .tuple [], .tuple []] := by kernel_rfl
def dueL : List PyData := [.list (hps.map fun p => .bool (isPt (limN p))), .list (hps.map fun p => ptD (limN p)), .list (hps.map fun p => rowD (wideOf (limN p))), .bool false, .none, .tuple [.int 2]]
theorem due_lay : PyData.canLay0 (.list dueL) = true ∧ PyData.depth (.list dueL) ≤ 6 := by
  unfold dueL
  rw [hp_set, hp_end, hp_swing]
  decide +kernel
theorem hp_eleven : isPt (limN (hLamps, [[0], [0], [0, 2]])) = false ∧ ptD (limN (hLamps, [[0], [0], [0, 2]])) = .none ∧ rowD (wideOf (limN (hLamps, [[0], [0], [0, 2]]))) = .tuple [.int 2] := ⟨by kernel_rfl, by kernel_rfl, by kernel_rfl⟩
theorem pw_addLx {a b c : List PyData} {Q : SV → Prop} (e : a ++ b = c) (h : c.length ≤ 1000000) (q : Q (.own none (.list c))) : PW .add [.list a, .list b] Q := by
  subst e
  exact pw_addL (by rw [← List.length_append]; exact h) q
theorem wr_hand2 {φ : Fn} (S8 : SpSettles φ) (S9 : SpEnd φ) (S10 : SpSwing φ) (S11 : SpSame φ) (S12 : SpCase φ) (L8 : List PyData) (h8 : L8 = dueL.take 3) :
    WSs φ (c__law_by_hand_right.body.drop 15) [some (.dat (houseN hChain)), some (.dat (houseN hSwap)), some (.dat (houseN hLamps)), some (.dat (houseN hWants)), some (.dat (houseN hKeep)), some (.dat (houseN hOne)), some (.dat (.list (hps.map pairD))), some (.own none (.list (dueL.take 3))), some (.own none (.list L8)), some (.own none (.list [lsD (houseN hLamps), lsD (boxD [[0], [0], [0, 2]])])), none, none] (EndQ fun v _ => v = .dat (.bool true)) := by
  subst h8
  have ok : ∀ p ∈ hps, HandOk p := fun p hp => hand_ok (hps_ok p hp)
  have o11 : HandOk (hLamps, [[0], [0], [0, 2]]) := ok _ (List.mem_of_getElem? (i := 11) rfl)
  show WSs φ [_, _, _, _] _ _
  repeat eq_refl
  refine ⟨_, rfl, ?_⟩
  refine wf_mono (hand_set S8 o11 o11.house.lists (box_lists _)) ?_
  rintro v1 p1 hv1
  rewrite [hp_eleven.1] at hv1
  rewrite [hv1]
  repeat eq_refl
  refine ⟨_, rfl, ?_⟩
  refine wf_mono (hand_end S9 o11 o11.house.lists (box_lists _)) ?_
  rintro v2 p2 hv2
  rewrite [hp_eleven.2.1] at hv2
  rewrite [hv2]
  repeat eq_refl
  refine pw_addLx (c := dueL.take 5) rfl (by decide) ?_
  nofun
  repeat eq_refl
  refine ⟨_, rfl, ?_⟩
  refine wf_mono (hand_swing S10 o11 o11.house.lists (box_lists _)) ?_
  rintro v3 p3 hv3
  rewrite [hp_eleven.2.2] at hv3
  rewrite [hv3]
  repeat eq_refl
  nofun
  repeat eq_refl
  refine pw_addLx (c := dueL) rfl (by decide) ?_
  repeat eq_refl
  refine wf_mono (S11 (.list dueL) due_lay.1 (Nat.lt_of_le_of_lt due_lay.2 (by decide))) ?_
  rintro _ p4 rfl
  nofun
  repeat eq_refl
  nofun
  refine we_lc ((hps.drop 3).take 9) pairD (fun _ => .bool true) ?_
  repeat eq_refl
  refine ⟨.own none (.list (((hps.drop 3).take 9).map pairD)), rfl, ?_⟩
  repeat eq_refl
  refine ⟨rfl, fun p hp => ?_, ?_⟩
  · have hp2 : p ∈ hps := List.mem_of_mem_drop (List.mem_of_mem_take hp)
    have q := ok p hp2
    nofun
    refine ts_two ?_
    nofun
    repeat eq_refl
    refine wf_mono (S12 _ _ p.2 q.house q.ok q.few q.box) ?_
    rintro _ p5 rfl
    exact ⟨rfl, rfl⟩
  · repeat eq_refl
    refine pw_all (l := (hps.drop 3).take 9) (f := fun _ => true) ?_
    repeat eq_refl
theorem wr_by_hand {φ : Fn} (C1 : WF φ "_law_chain" [] fun v _ => v = .dat (houseN hChain)) (C2 : WF φ "_law_swap" [] fun v _ => v = .dat (houseN hSwap)) (C3 : WF φ "_law_lamps" [] fun v _ => v = .dat (houseN hLamps)) (C4 : WF φ "_law_swings" [] fun v _ => v = .dat (houseN hWants))
    (S2 : SpLists φ) (S8 : SpSettles φ) (S9 : SpEnd φ) (S10 : SpSwing φ) (S11 : SpSame φ) (S12 : SpCase φ) : WR φ c__law_by_hand_right [] fun v _ => v = .dat (.bool true) := by
  refine wr_of rfl ?_
  show WSs φ [_, _, _, _, _, _, _, _, _, _, _, _, _, _, _, _, _, _, _] [none, none, none, none, none, none, none, none, none, none, none, none] _
  repeat eq_refl
  refine wf_mono C1 ?_
  rintro _ o1 rfl
  nofun
  repeat eq_refl
  refine wf_mono C2 ?_
  rintro _ o2 rfl
  nofun
  repeat eq_refl
  refine wf_mono C3 ?_
  rintro _ o3 rfl
  nofun
  repeat eq_refl
  refine wf_mono C4 ?_
  rintro _ o4 rfl
  nofun
  repeat eq_refl
  refine ⟨_, rfl, ?_⟩
  nofun
  repeat eq_refl
  refine ⟨_, rfl, ?_⟩
  nofun
  repeat eq_refl
  refine pw_addLx (c := (hps.take 6).map pairD) rfl (by decide) ?_
  nofun
  repeat eq_refl
  refine pw_addLx (c := (hps.take 8).map pairD) rfl (by decide) ?_
  nofun
  repeat eq_refl
  refine pw_addLx (c := (hps.take 10).map pairD) rfl (by decide) ?_
  nofun
  repeat eq_refl
  refine pw_addLx (c := (hps.take 13).map pairD) rfl (by decide) ?_
  nofun
  repeat eq_refl
  refine pw_addLx (c := hps.map pairD) rfl (by decide) ?_
  nofun
  repeat eq_refl
  nofun
  have ok : ∀ p ∈ hps, HandOk p := fun p hp => hand_ok (hps_ok p hp)
  refine we_lc hps pairD (fun p => .bool (isPt (limN p))) ?_
  repeat eq_refl
  nofun
  refine ⟨rfl, fun p hp => ?_, ?_⟩
  · nofun
    refine ts_two ?_
    nofun
    repeat eq_refl
    refine wf_mono (hand_set S8 (ok p hp) (ok p hp).house.rel (box_seq _)) ?_
    rintro v o hv
    exact ⟨hv, rfl⟩
  repeat eq_refl
  refine we_lc hps pairD (fun p => ptD (limN p)) ?_
  repeat eq_refl
  nofun
  refine ⟨rfl, fun p hp => ?_, ?_⟩
  · nofun
    refine ts_two ?_
    nofun
    repeat eq_refl
    refine wf_mono (hand_end S9 (ok p hp) (ok p hp).house.rel (box_seq _)) ?_
    rintro v o hv
    exact ⟨hv, rfl⟩
  repeat eq_refl
  nofun
  refine we_lc hps pairD (fun p => rowD (wideOf (limN p))) ?_
  repeat eq_refl
  nofun
  refine ⟨rfl, fun p hp => ?_, ?_⟩
  · nofun
    refine ts_two ?_
    nofun
    repeat eq_refl
    refine wf_mono (hand_swing S10 (ok p hp) (ok p hp).house.rel (box_seq _)) ?_
    rintro v o hv
    exact ⟨hv, rfl⟩
  repeat eq_refl
  nofun
  repeat eq_refl
  nofun
  repeat eq_refl
  refine pw_addLx (c := hps.map fun p => ptD (limN p)) (by rw [hp_end]; rfl) (by rw [hp_end]; decide) ?_
  nofun
  repeat eq_refl
  nofun
  repeat eq_refl
  nofun
  have o11 : HandOk (hLamps, [[0], [0], [0, 2]]) := ok _ (List.mem_of_getElem? (i := 11) rfl)
  have lay11 : PyData.canLay0 (pairD (hLamps, [[0], [0], [0, 2]])) = true ∧ PyData.depth (pairD (hLamps, [[0], [0], [0, 2]])) ≤ 6 := by decide +kernel
  refine wf_mono (S2 (pairD (hLamps, [[0], [0], [0, 2]])) lay11.1 (Nat.lt_of_le_of_lt lay11.2 (by decide))) ?_
  rintro _ o5 rfl
  exact wr_hand2 S8 S9 S10 S11 S12 _ (by unfold dueL; rw [hp_set, hp_swing]; rfl)
end K10

set_option Elab.async false
set_option linter.all false
set_option autoImplicit false
set_option maxRecDepth 1000000
set_option maxHeartbeats 0
namespace K10
open PySem LI
/-! ### the law, for every script -/
theorem lawTrue (ns : List Int) : ∃ outs, phi (pgOf tbl) 40 "law" [.dat (scrD ns)] = some (.dat (.bool true), outs) := by
  have tk := at_take (pg := pgOf tbl) rfl
  have ofs := at_of (pg := pgOf tbl) rfl tk
  have pk := at_pick (pg := pgOf tbl) rfl tk
  have hl := at_hall (pg := pgOf tbl) rfl tk ofs pk
  have st := at_spot (pg := pgOf tbl) rfl tk
  have sr := at_start (pg := pgOf tbl) rfl tk st
  have bg := at_bag (pg := pgOf tbl) rfl sr
  have sz := at_sizes (pg := pgOf tbl) rfl
  have so := at_set (pg := pgOf tbl) rfl
  have ra := at_rowsA (pg := pgOf tbl) rfl
  have ta := at_table (pg := pgOf tbl) rfl sz
  have ri := at_inside (pg := pgOf tbl) rfl ra
  have tp := at_part (pg := pgOf tbl) rfl ri ta so
  have tb := at_told (pg := pgOf tbl) rfl tp
  have tu := at_tupB (pg := pgOf tbl) rfl
  have lg := at_laps (pg := pgOf tbl) rfl tu tp so
  have gr := at_grown (pg := pgOf tbl) rfl lg
  have ro := at_rounds (pg := pgOf tbl) rfl gr tb
  have li := at_limit (pg := pgOf tbl) rfl ro
  have po := at_point (pg := pgOf tbl) rfl
  have wi := at_wide (pg := pgOf tbl) rfl
  have en := at_end (pg := pgOf tbl) rfl li po
  have sw := at_swing (pg := pgOf tbl) rfl li wi
  have se := at_settles (pg := pgOf tbl) rfl en
  have ls := at_lists (pg := pgOf tbl) rfl
  have sa := at_same (pg := pgOf tbl) rfl
  have rl := at_rowsL (pg := pgOf tbl) rfl
  have sl := at_sizesL (pg := pgOf tbl) rfl
  have sp := at_spots (pg := pgOf tbl) rfl
  have bo := at_both (pg := pgOf tbl) rfl
  have le := at_lies (pg := pgOf tbl) rfl
  have ip := at_isp (pg := pgOf tbl) rfl
  have ba := at_bags (pg := pgOf tbl) rfl
  have ma := at_maps (pg := pgOf tbl) rfl rl sl
  have sy := at_say (pg := pgOf tbl) rfl sp
  have go := at_grow (pg := pgOf tbl) rfl sy bo
  have ca : At (pgOf tbl) 21 SpCase := at_step fun n hn hd h b H o k i => wf_phi rfl (wr_case (ma n (by omega)) (ls n hn) (ba n (by omega)) (go n (by omega)) (le n (by omega)) (sy n (by omega)) (ip n (by omega)) (se n (by omega)) (en n (by omega)) (sw n (by omega)) (sa n hn) H o k i)
  have rt : At (pgOf tbl) 22 SpRight := at_step fun n hn d h => wf_phi rfl (wr_right (tk n (by omega)) (hl n (by omega)) (bg n (by omega)) (ca n hn) h)
  have ce : At (pgOf tbl) 1 SpCells := at_step fun n hn ns k a b => wf_phi rfl (wr_cells a b)
  have bx : At (pgOf tbl) 1 SpBoxL := at_step fun n hn cs k a b => wf_phi rfl (wr_box a b)
  have c1 : WF (phi (pgOf tbl) 38) "_law_chain" [] fun v _ => v = .dat (houseN hChain) := wf_phi (n := 37) rfl wr_chain
  have c2 : WF (phi (pgOf tbl) 38) "_law_swap" [] fun v _ => v = .dat (houseN hSwap) := wf_phi (n := 37) rfl wr_swap
  have c3 : WF (phi (pgOf tbl) 38) "_law_lamps" [] fun v _ => v = .dat (houseN hLamps) := wf_phi (n := 37) rfl wr_lamps
  have c4 : WF (phi (pgOf tbl) 38) "_law_swings" [] fun v _ => v = .dat (houseN hWants) := wf_phi (n := 37) rfl wr_swings
  have h0 : WF (phi (pgOf tbl) 39) "_law_by_hand_right" [] fun v _ => v = .dat (.bool true) := wf_phi (n := 38) rfl (wr_by_hand c1 c2 c3 c4 (ls 38 (by omega)) (se 38 (by omega)) (en 38 (by omega)) (sw 38 (by omega)) (sa 38 (by omega)) (ca 38 (by omega)))
  have := wf_phi (pg := pgOf tbl) (n := 39) (f := "law") rfl (wr_law h0 (ce 39 (by omega)) (bx 39 (by omega)) (rt 39 (by omega)) ns)
  unfold WF at this
  obtain ⟨r, o, h1, rfl⟩ := this
  exact ⟨o, h1⟩
end K10

set_option Elab.async false
set_option linter.all false
set_option maxRecDepth 1000000
set_option maxHeartbeats 0
namespace K10
open PySem PySem.Spec PyProof.Rows L2 LI
theorem b_tupled : BindN f_tupled := fun _ _ _ _ _ _ us hl => match us, hl with | [_], _ => rfl
theorem b_set_of : BindN f_set_of := fun _ _ _ _ _ _ us hl => match us, hl with | [_], _ => rfl
theorem b_sizes_of : BindN f_sizes_of := fun _ _ _ _ _ _ us hl => match us, hl with | [_, _], _ => rfl
theorem b_table_at : BindN f_table_at := fun _ _ _ _ _ _ us hl => match us, hl with | [_, _, _], _ => rfl
theorem b_rows_among : BindN f_rows_among := fun _ _ _ _ _ _ us hl => match us, hl with | [_], _ => rfl
theorem b_point_of : BindN f_point_of := fun _ _ _ _ _ _ us hl => match us, hl with | [_, _], _ => rfl
theorem b_wide_places : BindN f_wide_places := fun _ _ _ _ _ _ us hl => match us, hl with | [_, _], _ => rfl
theorem b_rows_inside : BindN f_rows_inside := fun _ _ _ _ _ _ us hl => match us, hl with | [_, _, _], _ => rfl
theorem b_told_part : BindN f_told_part := fun _ _ _ _ _ _ us hl => match us, hl with | [_, _, _], _ => rfl
theorem b_told_box : BindN f_told_box := fun _ _ _ _ _ _ us hl => match us, hl with | [_, _], _ => rfl
theorem b_laps_grown : BindN f_laps_grown := fun _ _ _ _ _ _ us hl => match us, hl with | [_, _, _], _ => rfl
theorem b_grown : BindN f_grown := fun _ _ _ _ _ _ us hl => match us, hl with | [_, _], _ => rfl
theorem b_rounds : BindN f_rounds := fun _ _ _ _ _ _ us hl => match us, hl with | [_, _], _ => rfl
theorem b_limit : BindN f_limit := fun _ _ _ _ _ _ us hl => match us, hl with | [_, _], _ => rfl
theorem b_settles : BindN f_settles := fun _ _ _ _ _ _ us hl => match us, hl with | [_, _], _ => rfl
theorem b_end_from : BindN f_end_from := fun _ _ _ _ _ _ us hl => match us, hl with | [_, _], _ => rfl
theorem b_swinging : BindN f_swinging := fun _ _ _ _ _ _ us hl => match us, hl with | [_, _], _ => rfl
theorem b__law_box : BindN f__law_box := fun _ _ _ _ _ _ us hl => match us, hl with | [_, _], _ => rfl
theorem b__law_take : BindN f__law_take := fun _ _ _ _ _ _ us hl => match us, hl with | [_, _], _ => rfl
theorem b__law_cells : BindN f__law_cells := fun _ _ _ _ _ _ us hl => match us, hl with | [_, _], _ => rfl
theorem b__law_of : BindN f__law_of := fun _ _ _ _ _ _ us hl => match us, hl with | [_, _], _ => rfl
theorem b__law_pick : BindN f__law_pick := fun _ _ _ _ _ _ us hl => match us, hl with | [_, _, _], _ => rfl
theorem b__law_lists : BindN f__law_lists := fun _ _ _ _ _ _ us hl => match us, hl with | [_], _ => rfl
theorem b__law_same : BindN f__law_same := fun _ _ _ _ _ _ us hl => match us, hl with | [_, _], _ => rfl
theorem b__law_rows : BindN f__law_rows := fun _ _ _ _ _ _ us hl => match us, hl with | [_], _ => rfl
theorem b__law_sizes : BindN f__law_sizes := fun _ _ _ _ _ _ us hl => match us, hl with | [_, _], _ => rfl
theorem b__law_hall : BindN f__law_hall := fun _ _ _ _ _ _ us hl => match us, hl with | [_, _, _], _ => rfl
theorem b__law_spot : BindN f__law_spot := fun _ _ _ _ _ _ us hl => match us, hl with | [_, _], _ => rfl
theorem b__law_start : BindN f__law_start := fun _ _ _ _ _ _ us hl => match us, hl with | [_, _], _ => rfl
theorem b__law_lies : BindN f__law_lies := fun _ _ _ _ _ _ us hl => match us, hl with | [_, _], _ => rfl
theorem b__law_spots : BindN f__law_spots := fun _ _ _ _ _ _ us hl => match us, hl with | [_], _ => rfl
theorem b__law_both : BindN f__law_both := fun _ _ _ _ _ _ us hl => match us, hl with | [_, _], _ => rfl
theorem b__law_is_point : BindN f__law_is_point := fun _ _ _ _ _ _ us hl => match us, hl with | [_], _ => rfl
theorem b__law_bags : BindN f__law_bags := fun _ _ _ _ _ _ us hl => match us, hl with | [_], _ => rfl
theorem b__law_lamps : BindN f__law_lamps := fun _ _ _ _ _ _ us hl => match us, hl with | [], _ => rfl
theorem b__law_swings : BindN f__law_swings := fun _ _ _ _ _ _ us hl => match us, hl with | [], _ => rfl
theorem b__law_maps : BindN f__law_maps := fun _ _ _ _ _ _ us hl => match us, hl with | [_], _ => rfl
theorem b__law_say : BindN f__law_say := fun _ _ _ _ _ _ us hl => match us, hl with | [_, _, _], _ => rfl
theorem b__law_grow : BindN f__law_grow := fun _ _ _ _ _ _ us hl => match us, hl with | [_, _, _], _ => rfl
theorem b__law_chain : BindN f__law_chain := fun _ _ _ _ _ _ us hl => match us, hl with | [], _ => rfl
theorem b__law_swap : BindN f__law_swap := fun _ _ _ _ _ _ us hl => match us, hl with | [], _ => rfl
theorem b__law_bag : BindN f__law_bag := fun _ _ _ _ _ _ us hl => match us, hl with | [_, _], _ => rfl
theorem b__law_case_right : BindN f__law_case_right := fun _ _ _ _ _ _ us hl => match us, hl with | [_, _], _ => rfl
theorem b__law_by_hand_right : BindN f__law_by_hand_right := fun _ _ _ _ _ _ us hl => match us, hl with | [], _ => rfl
theorem b__law_right : BindN f__law_right := fun _ _ _ _ _ _ us hl => match us, hl with | [_], _ => rfl
theorem b_law : BindN f_law := fun _ _ _ _ _ _ us hl => match us, hl with | [_], _ => rfl
theorem bAll : ∀ d ∈ tbl, BindN d := all_cons b_tupled (all_cons b_set_of (all_cons b_sizes_of (all_cons b_table_at (all_cons b_rows_among (all_cons b_point_of (all_cons b_wide_places (all_cons b_rows_inside (all_cons b_told_part (all_cons b_told_box (all_cons b_laps_grown (all_cons b_grown (all_cons b_rounds (all_cons b_limit (all_cons b_settles (all_cons b_end_from (all_cons b_swinging (all_cons b__law_box (all_cons b__law_take (all_cons b__law_cells (all_cons b__law_of (all_cons b__law_pick (all_cons b__law_lists (all_cons b__law_same (all_cons b__law_rows (all_cons b__law_sizes (all_cons b__law_hall (all_cons b__law_spot (all_cons b__law_start (all_cons b__law_lies (all_cons b__law_spots (all_cons b__law_both (all_cons b__law_is_point (all_cons b__law_bags (all_cons b__law_lamps (all_cons b__law_swings (all_cons b__law_maps (all_cons b__law_say (all_cons b__law_grow (all_cons b__law_chain (all_cons b__law_swap (all_cons b__law_bag (all_cons b__law_case_right (all_cons b__law_by_hand_right (all_cons b__law_right (all_cons b_law (all_nil))))))))))))))))))))))))))))))))))))))))))))))
theorem kw2 : ∃ d ∈ tbl, d.name = ("swinging" : Str) ∧ KwN d ["box", "house"] [1, 0] := ⟨f_swinging, by simp [tbl], rfl, fun _ _ _ _ _ _ us hl => match us, hl with | [_, _], _ => rfl⟩
theorem kw1 : ∃ d ∈ tbl, d.name = ("end_from" : Str) ∧ KwN d ["box", "house"] [1, 0] := ⟨f_end_from, by simp [tbl], rfl, fun _ _ _ _ _ _ us hl => match us, hl with | [_, _], _ => rfl⟩
theorem kw0 : ∃ d ∈ tbl, d.name = ("settles" : Str) ∧ KwN d ["box", "house"] [1, 0] := ⟨f_settles, by simp [tbl], rfl, fun _ _ _ _ _ _ us hl => match us, hl with | [_, _], _ => rfl⟩
theorem kwAll : ∀ q ∈ kb, ∃ d ∈ tbl, d.name = q.1 ∧ KwN d q.2.1 q.2.2 := all_cons kw0 (all_cons kw1 (all_cons kw2 (all_nil)))
theorem chkAll : ∀ d ∈ tbl, fnC tbl gi kb d = true := by decide +kernel
theorem lookAll : ∀ d ∈ tbl, (pgOf tbl).lookup d.name = some d.code := all_cons rfl (all_cons rfl (all_cons rfl (all_cons rfl (all_cons rfl (all_cons rfl (all_cons rfl (all_cons rfl (all_cons rfl (all_cons rfl (all_cons rfl (all_cons rfl (all_cons rfl (all_cons rfl (all_cons rfl (all_cons rfl (all_cons rfl (all_cons rfl (all_cons rfl (all_cons rfl (all_cons rfl (all_cons rfl (all_cons rfl (all_cons rfl (all_cons rfl (all_cons rfl (all_cons rfl (all_cons rfl (all_cons rfl (all_cons rfl (all_cons rfl (all_cons rfl (all_cons rfl (all_cons rfl (all_cons rfl (all_cons rfl (all_cons rfl (all_cons rfl (all_cons rfl (all_cons rfl (all_cons rfl (all_cons rfl (all_cons rfl (all_cons rfl (all_cons rfl (all_cons rfl (all_nil))))))))))))))))))))))))))))))))))))))))))))))
def loose0 : List Str := ["tupled", "set_of", "sizes_of", "table_at", "rows_among", "point_of", "wide_places", "rows_inside", "told_part", "told_box", "laps_grown", "grown", "rounds", "limit", "settles", "end_from", "swinging", "_law_box"]
def loose1 : List Str := ["_law_take", "_law_cells", "_law_of", "_law_pick", "_law_lists", "_law_same", "_law_rows", "_law_sizes", "_law_hall", "_law_spot", "_law_start", "_law_lies", "_law_spots", "_law_both", "_law_is_point", "_law_bags", "_law_lamps", "_law_swings"]
def loose2 : List Str := ["_law_maps", "_law_say", "_law_grow", "_law_chain", "_law_swap", "_law_bag", "_law_case_right", "_law_by_hand_right", "_law_right", "VALUES", "WATCHED", "TABLE", "PAIR"]
abbrev R : PySem.W.OpenRow := PySem.W.OpenLaw.row PySem.Challenge.rw_latesights_k10_settling_by_all_boxes
abbrev hk : PySem.W.Hook := He.hookD 4 (fasOf tbl gi) (fnsOf tbl)
def ob (s : PySem.W.SharedT) : He.AlD := He.obsDG 4 (fasOf tbl gi) (fnsOf tbl) (HandSHeadRun.getT s)
theorem ob_eq (s : PySem.W.SharedT) : ob s = hk.obs s.abs := He.obsDG_eq (HandSHeadRun.getT_eq s)
theorem run (w : World) : HandSHeadRun.RunEq R (PySem.W.view R.prog [54]) hk ob 20000 (loose0 ++ loose1 ++ loose2) w := by
  intro os
  kernel_rfl
end K10
open PySem PySem.W PySem.Calls PyProof.Rows
theorem holds_of (lawTrue : ∀ ns : List Int, ns.length ≤ 63 → ∃ outs, LI.phi (LI.pgOf K10.tbl) 40 "law" [.dat (LI.scrD ns)] = some (.dat (.bool true), outs)) : PySem.Challenge.rw_latesights_k10_settling_by_all_boxes.Holds := by
  w_on; o_law
  refine HandSHeadRun.head_any (r := OpenLaw.row PySem.Challenge.rw_latesights_k10_settling_by_all_boxes) (q := view (OpenLaw.row PySem.Challenge.rw_latesights_k10_settling_by_all_boxes).prog [54]) (H := K10.hk) (ob := K10.ob) (M := 20000) (loose := (K10.loose0 ++ K10.loose1 ++ K10.loose2)) (d := HandSHeadRun.topDef (OpenLaw.row PySem.Challenge.rw_latesights_k10_settling_by_all_boxes).prog 54) (kwd := []) K10.ob_eq
    (by kernel_rfl) (fun s => by kernel_rfl) K10.run (by kernel_rfl) (by kernel_rfl) (by kernel_rfl) (by rfl) (by first | assumption | decide +kernel) (by decide +kernel) ⟨rfl, rfl, rfl, rfl, rfl, by decide +kernel⟩ ?hw ?hc
  case hw => w_witness2
  case hc =>
    refine L2.walk_ofE (l := PySem.Challenge.rw_latesights_k10_settling_by_all_boxes) (n := 63) (k := 40) (x := "_law_script") (CX := L2.CX0) rfl (by decide) (by kernel_rfl) ⟨rfl, by decide, by decide⟩ ?F (fun _ _ _ _ z => z)
    intro w mg fa h Y G hmg0
    obtain ⟨K, KX, c⟩ := Y
    have hmg : mg ("law" : PySem.Str) = some (.ref fa) := by
      have e : (HandSHeadRun.topDef (OpenLaw.row PySem.Challenge.rw_latesights_k10_settling_by_all_boxes).prog 54).name = ("law" : PySem.Str) := by kernel_rfl
      rw [← e]
      exact hmg0
    obtain ⟨fd, hb, hF⟩ := LI.facts_law (P := (PySem.Challenge.rw_latesights_k10_settling_by_all_boxes).prog) (w := w) (n := 40) (d := K10.f_law) (x := "_law_script") KX G hmg c K10.bAll K10.kwAll K10.chkAll K10.lookAll (by simp [K10.tbl]) rfl rfl
    refine ⟨K, fd, _, KX, hb, fun H a ns hl _ hS => ?_, hF⟩
    obtain ⟨outs, e⟩ := lawTrue ns hl
    exact LI.law_sp hS (Nat.le_trans hl (by decide)) e
namespace K10
end K10

theorem PySem.Challenge.cw_latesights_k10_settling_by_all_boxes_holds : PySem.Challenge.rw_latesights_k10_settling_by_all_boxes.Holds :=
  holds_of fun ns _ => K10.lawTrue ns

